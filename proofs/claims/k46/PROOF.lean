import PyProof.Rows.All
import Wide.All
import OpenK.AllK
import Wide.FinOn
import HandS.ForMost
import HandS.IsInst
import HandS.Wide
import HandS.Flow
import HandS.Style
import HandS.RaiseMore
import KE.GoesEnum
import HandS.Codes
import KE.KOpsOwn
import KE.KCallOwn
import KE.KFmtOwn
import HandS.SlotsOwn
import HandS.TupAny
import HandS.Star
import HandS.FStr
import HandS.Text
import HandS.Comp
import HandS.Replace
import HandS.SortRule
import HandS.SortInts
import HandS.Defaults
import HandS.MakeKw
import HandS.Strs
import HandS.SetFor
import HandS.TupMul
import HandS.Deep
import KE.KDictZip
import KE.KTurns
import HandS.Conv
import HandS.Property
import KE.KDictList
import HandS.Dict
import HandS.MakeKwOnly
import HandS.ClsMeth
import HandS.ReplaceLit
import HandS.ReplaceDef
import HandS.DictComp
import HandS.Iter
import HandS.WordsDict
import HandS.WordsExc
import HandS.ExcIs
import HandS.ExcInit
import KE.KExcSuper
import HandS.ExcOwn
import HandS.ExcField
import HandS.TryMany
import KE.RegKIsAll
import PySem.Challenge.RW_bendkinds_k46_points_refused
set_option Elab.async false
set_option linter.all false
set_option maxRecDepth 100000
set_option maxHeartbeats 4000000
namespace Bk
open PySem L2
inductive D where
  | non | bl (b : Bool) | int (i : Int) | str (x : PySem.Str)
  | lst (xs : List D) | frz (xs : List D) | tup (xs : List D) | obj (c : Nat) (xs : List D) | ty (n : String) | cl (c : Nat) | dic (ks : List PySem.Str) (xs : List D)
def cName : Nat → PySem.Str
  | 0 => "Rule" | 1 => "Part" | 2 => "Live" | 3 => "Block" | 4 => "Desk" | _ => "Table"
def cAttrs : Nat → List PySem.Str
  | 0 => ["low", "high", "weights", "shares"]
  | 1 => ["start", "end", "powers", "whole", "least_high", "most_high"]
  | 2 => ["past"] | 3 => ["live", "kept"] | 4 => ["kept"]
  | _ => ["many", "size", "signs", "lines", "base"]
/-- the class of that number stands at C -/
def CAt (K : PySem.W.Frag) (c : Nat) (C : Addr) : Prop := PySem.W.nsIn K mainGlobals (cName c) = some (some (.ref C))
theorem CAt.eq {K : PySem.W.Frag} {c : Nat} {C C' : Addr} (h : CAt K c C) (h' : CAt K c C') : C = C' := by
  unfold CAt at h h'
  rw [h] at h'
  cases h'
  rfl
mutual
inductive DR (K : PySem.W.Frag) (H : Hp) : V → D → Prop
  | non : DR K H .non .non
  | bl (b : Bool) : DR K H (.bl b) (.bl b)
  | int (i : Int) : DR K H (.int i) (.int i)
  | str (x : PySem.Str) : DR K H (.str x) (.str x)
  | lst {a : Addr} {xs : List V} {ds : List D} : H a = some (.lst xs) → DRs K H xs ds → DR K H (.ref a) (.lst ds)
  | frz {a : Addr} {xs : List V} {ds : List D} : SqL K H a xs → DRs K H xs ds → DR K H (.ref a) (.frz ds)
  | tup {a : Addr} {xs : List V} {ds : List D} : SqT K H a xs → DRs K H xs ds → DR K H (.ref a) (.tup ds)
  | obj {a C dx : Addr} {c : Nat} {fs : List (PySem.Str × V)} {vs : List V} {ds : List D} : CAt K c C → H a = some (.ins C dx fs) → fs.map (·.1) = (cAttrs c).take ds.length → fs.map (·.2) = vs → DRs K H vs ds → DR K H (.ref a) (.obj c ds)
  | ty (n : String) : DR K H (.ty n) (.ty n)
  | cl {c : Nat} {C : Addr} : CAt K c C → DR K H (.ref C) (.cl c)
  | dic {a : Addr} {ks : List PySem.Str} {vs : List V} {ds : List D} : Rd H a (.dK ((ks.map Sum.inr).zip vs)) → DRs K H vs ds → ks.length = vs.length → DR K H (.ref a) (.dic ks ds)
inductive DRs (K : PySem.W.Frag) (H : Hp) : List V → List D → Prop
  | nil : DRs K H [] []
  | cons {v : V} {vs : List V} {d : D} {ds : List D} : DR K H v d → DRs K H vs ds → DRs K H (v :: vs) (d :: ds)
end
theorem same_rd {H H' : Hp} (e : Same H H') {a : Addr} {u : HO} (r : Rd H a u) : Rd H' a u := by
  cases r with
  | inl h => exact .inl (e _ _ h)
  | inr h =>
    obtain ⟨o, h⟩ := h
    exact .inr ⟨o, e _ _ h⟩
theorem same_tup {K : PySem.W.Frag} {H H' : Hp} (e : Same H H') {a : Addr} {xs : List V} (h : SqT K H a xs) : SqT K H' a xs := by
  cases h with
  | inl h => exact .inl (same_rd e h)
  | inr h => exact .inr h
theorem same_lst {K : PySem.W.Frag} {H H' : Hp} (e : Same H H') {a : Addr} {xs : List V} (h : SqL K H a xs) : SqL K H' a xs := by
  cases h with
  | inl h => exact .inl (same_rd e h)
  | inr h => exact .inr h
mutual
theorem DR.mono {K : PySem.W.Frag} {H H' : Hp} (e : Same H H') : ∀ {v : V} {d : D}, DR K H v d → DR K H' v d
  | _, _, .non => .non
  | _, _, .bl b => .bl b
  | _, _, .int i => .int i
  | _, _, .str x => .str x
  | _, _, .lst h hs => .lst (e _ _ h) (DRs.mono e hs)
  | _, _, .frz h hs => .frz (same_lst e h) (DRs.mono e hs)
  | _, _, .tup h hs => .tup (same_tup e h) (DRs.mono e hs)
  | _, _, .obj c h h1 h2 hs => .obj c (e _ _ h) h1 h2 (DRs.mono e hs)
  | _, _, .ty n => .ty n
  | _, _, .cl c => .cl c
  | _, _, .dic h hs hl => .dic (same_rd e h) (DRs.mono e hs) hl
theorem DRs.mono {K : PySem.W.Frag} {H H' : Hp} (e : Same H H') : ∀ {vs : List V} {ds : List D}, DRs K H vs ds → DRs K H' vs ds
  | _, _, .nil => .nil
  | _, _, .cons h hs => .cons (DR.mono e h) (DRs.mono e hs)
end
section
variable {K : PySem.W.Frag} {H : Hp}
theorem DRs.len : ∀ {vs : List V} {ds : List D}, DRs K H vs ds → vs.length = ds.length
  | _, _, .nil => rfl
  | _, _, .cons _ hs => congrArg Nat.succ (DRs.len hs)
theorem DRs.at : ∀ {vs : List V} {ds : List D} {i : Nat} {d : D}, DRs K H vs ds → ds[i]? = some d → ∃ v, vs[i]? = some v ∧ DR K H v d
  | _, _, _, _, .nil, e => by simp at e
  | _, _, 0, _, .cons h _, e => by simp at e; subst e; exact ⟨_, rfl, h⟩
  | _, _, i + 1, _, .cons _ hs, e => by
    obtain ⟨v, h1, h2⟩ := DRs.at (i := i) hs (by simpa using e)
    exact ⟨v, by simpa using h1, h2⟩
theorem DRs.ta : ∀ {vs : List V} {ds : List D} {i : Nat} {v : V}, DRs K H vs ds → vs[i]? = some v → ∃ d, ds[i]? = some d ∧ DR K H v d
  | _, _, _, _, .nil, e => by simp at e
  | _, _, 0, _, .cons h _, e => by simp at e; subst e; exact ⟨_, rfl, h⟩
  | _, _, i + 1, _, .cons _ hs, e => by
    obtain ⟨v, h1, h2⟩ := DRs.ta (i := i) hs (by simpa using e)
    exact ⟨v, by simpa using h1, h2⟩
theorem DRs.app : ∀ {vs ws : List V} {ds es : List D}, DRs K H vs ds → DRs K H ws es → DRs K H (vs ++ ws) (ds ++ es)
  | _, _, _, _, .nil, h => h
  | _, _, _, _, .cons a t, h => .cons a (DRs.app t h)
theorem DRs.one {v : V} {d : D} (h : DR K H v d) : DRs K H [v] [d] := .cons h .nil
theorem DRs.drop : ∀ {vs : List V} {ds : List D} (n : Nat), DRs K H vs ds → DRs K H (vs.drop n) (ds.drop n)
  | _, _, 0, h => h
  | _, _, _ + 1, .nil => .nil
  | _, _, n + 1, .cons _ t => DRs.drop n t
theorem DRs.take : ∀ {vs : List V} {ds : List D} (n : Nat), DRs K H vs ds → DRs K H (vs.take n) (ds.take n)
  | _, _, 0, _ => .nil
  | _, _, _ + 1, .nil => .nil
  | _, _, n + 1, .cons a t => .cons a (DRs.take n t)
theorem DRs.set {v : V} {d : D} (h : DR K H v d) : ∀ {vs : List V} {ds : List D} (i : Nat), DRs K H vs ds → DRs K H (vs.set i v) (ds.set i d)
  | _, _, _, .nil => .nil
  | _, _, 0, .cons _ t => .cons h t
  | _, _, i + 1, .cons a t => .cons a (DRs.set h i t)
theorem DRs.rev : ∀ {vs : List V} {ds : List D}, DRs K H vs ds → DRs K H vs.reverse ds.reverse
  | _, _, .nil => .nil
  | _, _, .cons a t => by
    rw [List.reverse_cons, List.reverse_cons]
    exact DRs.app (DRs.rev t) (.cons a .nil)
theorem DRs.rep {vs : List V} {ds : List D} (h : DRs K H vs ds) : ∀ k : Nat, DRs K H (List.replicate k vs).flatten (List.replicate k ds).flatten
  | 0 => .nil
  | k + 1 => by
    rw [List.replicate_succ, List.replicate_succ, List.flatten_cons, List.flatten_cons]
    exact DRs.app h (DRs.rep h k)
theorem DRs.ints : ∀ (ns : List Int), DRs K H (ns.map V.int) (ns.map D.int)
  | [] => .nil
  | n :: ns => .cons (.int n) (DRs.ints ns)
end
/-- what may change: a list, an instance -/
inductive Mob where
  | l (ds : List D) | o (c : Nat) (ds : List D)
def Mob.d : Mob → D
  | .l ds => .lst ds
  | .o c ds => .obj c ds
inductive Ent where
  | un | im (d : D) | ow (m : Mob) | bx (m : Mob)
def Ent.mu : Ent → Option Mob
  | .ow m => some m
  | .bx m => some m
  | _ => none
abbrev Gam := List Ent
inductive R where
  | im (d : D) | ow (m : Mob)
abbrev R.ol (ds : List D) : R := .ow (.l ds)
abbrev Ent.ol (ds : List D) : Ent := .ow (.l ds)
abbrev Ent.bl (ds : List D) : Ent := .bx (.l ds)
def R.d : R → D
  | .im d => d
  | .ow m => m.d
def R.ent : R → Ent
  | .im d => .im d
  | .ow m => .ow m
abbrev M (α : Type) := Gam → Option (α × Gam)
/-- the object at an address is that thing -/
def MobO (K : PySem.W.Frag) (Hs : Hp) : Mob → HO → Prop
  | .l ds, o => ∃ vs, o = .lst vs ∧ DRs K Hs vs ds
  | .o c ds, o => ∃ C dx fs, CAt K c C ∧ o = .ins C dx fs ∧ fs.map (·.1) = (cAttrs c).take ds.length ∧ DRs K Hs (fs.map (·.2)) ds
theorem MobO.mono {K : PySem.W.Frag} {H H' : Hp} (e : Same H H') {m : Mob} {o : HO} (h : MobO K H m o) : MobO K H' m o := by
  cases m with
  | l ds =>
    obtain ⟨vs, h1, h2⟩ := h
    exact ⟨vs, h1, h2.mono e⟩
  | o c ds =>
    obtain ⟨C, dx, fs, h1, h2, h3, h4⟩ := h
    exact ⟨C, dx, fs, h1, h2, h3, h4.mono e⟩
theorem MobO.dr {K : PySem.W.Frag} {H : Hp} {m : Mob} {o : HO} {a : Addr} (h : MobO K H m o) (ha : H a = some o) : DR K H (.ref a) m.d := by
  cases m with
  | l ds =>
    obtain ⟨vs, rfl, h2⟩ := h
    exact .lst ha h2
  | o c ds =>
    obtain ⟨C, dx, fs, h1, rfl, h3, h4⟩ := h
    exact .obj h1 ha h3 rfl h4
structure Rel (K : PySem.W.Frag) (Fz : Hp) (ba : Nat → Addr) (G : Gam) (σ : L2.St) (H Hs : Hp) : Prop where
  sub : Same Hs H
  fz : ∀ a o, Fz a = some o → H a = some o ∧ Hs a = none
  len : σ.length = G.length
  im : ∀ (i : Nat) (d : D), G[i]? = some (.im d) → ∃ v, σ[i]? = some (some v) ∧ DR K Hs v d
  mu : ∀ (i : Nat) (e : Ent) (m : Mob), G[i]? = some e → e.mu = some m → ∃ l o, σ[i]? = some (some (.ref l)) ∧ H l = some o ∧ Hs l = none ∧ Fz l = none ∧ MobO K Hs m o
  dj : ∀ (i j : Nat) (e e' : Ent) (l : Addr), G[i]? = some e → G[j]? = some e' → e.mu ≠ none → e'.mu ≠ none → σ[i]? = some (some (.ref l)) → σ[j]? = some (some (.ref l)) → i = j
  bx : ∀ (i : Nat) (m : Mob), G[i]? = some (.bx m) → σ[i]? = some (some (.ref (ba i)))
/-- more was laid, nothing that stood was touched; what is hidden stays hidden -/
structure Ext (H Hs H' Hs' : Hp) : Prop where
  a : Same H H'
  b : Same Hs Hs'
  c : Same Hs' H'
  n : ∀ x o, H x = some o → Hs x = none → Hs' x = none
theorem Ext.refl {H Hs : Hp} (s : Same Hs H) : Ext H Hs H Hs := ⟨Same.refl _, Same.refl _, s, fun _ _ _ h => h⟩
theorem Ext.trans {H Hs H1 Hs1 H2 Hs2 : Hp} (p : Ext H Hs H1 Hs1) (q : Ext H1 Hs1 H2 Hs2) : Ext H Hs H2 Hs2 :=
  ⟨p.a.trans q.a, p.b.trans q.b, q.c, fun x o h1 h2 => q.n x o (p.a x o h1) (p.n x o h1 h2)⟩
theorem same_new {H : Hp} {p : Addr} {o : HO} (h : H p = none) : Same H (upd H p o) := fun a u e => by
  rw [upd_ne (ne_of_none e h)]
  exact e
theorem none_sub {Hs H : Hp} (s : Same Hs H) {p : Addr} (h : H p = none) : Hs p = none := s.free h
theorem same_upd2 {Hs H : Hp} (s : Same Hs H) {p : Addr} {o : HO} : Same (upd Hs p o) (upd H p o) := fun a u e => by
  by_cases z : a = p
  · subst z
    rw [upd_same] at e ⊢
    exact e
  · rw [upd_ne z] at e ⊢
    exact s a u e
theorem Ext.new {H Hs : Hp} {p : Addr} {o : HO} (s : Same Hs H) (h : H p = none) : Ext H Hs (upd H p o) (upd Hs p o) :=
  ⟨same_new h, same_new (none_sub s h), same_upd2 s, fun x u h1 h2 => by rw [upd_ne (ne_of_none h1 h)]; exact h2⟩
theorem Ext.hid {H Hs : Hp} {p : Addr} {o : HO} (s : Same Hs H) (h : H p = none) : Ext H Hs (upd H p o) Hs :=
  ⟨same_new h, Same.refl _, s.trans (same_new h), fun x u _ h2 => h2⟩
section
variable {K : PySem.W.Frag} {Fz : Hp} {ba : Nat → Addr} {G : Gam} {σ : L2.St} {H Hs H' Hs' : Hp}
theorem Rel.ext (r : Rel K Fz ba G σ H Hs) (e : Ext H Hs H' Hs') : Rel K Fz ba G σ H' Hs' where
  sub := e.c
  fz := fun a o h => let ⟨h1, h2⟩ := r.fz a o h; ⟨e.a a o h1, e.n a o h1 h2⟩
  len := r.len
  im := fun i d h => let ⟨v, h1, h2⟩ := r.im i d h; ⟨v, h1, h2.mono e.b⟩
  mu := fun i en ds h h0 => let ⟨l, vs, h1, h2, h3, h4, h5⟩ := r.mu i en ds h h0; ⟨l, vs, h1, e.a l _ h2, e.n l _ h2 h3, h4, h5.mono e.b⟩
  dj := r.dj
  bx := r.bx
def Res (K : PySem.W.Frag) (Fz : Hp) (G : Gam) (σ : L2.St) (H Hs : Hp) (v : V) : R → Prop
  | .im d => DR K Hs v d
  | .ow m => ∃ p o, v = .ref p ∧ H p = some o ∧ Hs p = none ∧ Fz p = none ∧ MobO K Hs m o ∧ ∀ (i : Nat) (e : Ent), G[i]? = some e → e.mu ≠ none → σ[i]? ≠ some (some (.ref p))
/-- an owned object becomes a shared one -/
theorem Rel.froze (r : Rel K Fz ba G σ H Hs) {p : Addr} {o : HO} (h : H p = some o) (hs : Hs p = none) (hf : Fz p = none) (hn : ∀ (i : Nat) (e : Ent), G[i]? = some e → e.mu ≠ none → σ[i]? ≠ some (some (.ref p))) :
    Rel K Fz ba G σ H (upd Hs p o) ∧ Same Hs (upd Hs p o) := by
  have sm : Same Hs (upd Hs p o) := same_new hs
  refine ⟨⟨fun a u e => ?_, fun a u e => ?_, r.len, fun i d e => ?_, fun i en ds e e0 => ?_, r.dj, r.bx⟩, sm⟩
  · by_cases z : a = p
    · subst z
      rw [upd_same] at e
      rw [h]
      exact e
    · rw [upd_ne z] at e
      exact r.sub a u e
  · obtain ⟨h1, h2⟩ := r.fz a u e
    refine ⟨h1, ?_⟩
    rw [upd_ne (ne_of_none e hf)]
    exact h2
  · obtain ⟨v, h1, h2⟩ := r.im i d e
    exact ⟨v, h1, h2.mono sm⟩
  · obtain ⟨l, vs, h1, h2, h3, h4, h5⟩ := r.mu i en ds e e0
    refine ⟨l, vs, h1, h2, ?_, h4, h5.mono sm⟩
    have z : l ≠ p := by
      intro z
      subst z
      exact hn i en e (by rw [e0]; simp) h1
    rw [upd_ne z]
    exact h3
theorem Rel.fzr (r : Rel K Fz ba G σ H Hs) {v : V} {x : R} (h : Res K Fz G σ H Hs v x) : ∃ Hs', Rel K Fz ba G σ H Hs' ∧ Same Hs Hs' ∧ DR K Hs' v x.d := by
  cases x with
  | im d => exact ⟨Hs, r, Same.refl _, h⟩
  | ow ds =>
    obtain ⟨p, vs, rfl, h1, h2, h3, h4, h5⟩ := h
    obtain ⟨q1, q2⟩ := r.froze h1 h2 h3 h5
    exact ⟨_, q1, q2, (h4.mono q2).dr upd_same⟩
theorem get_set {α : Type} {l : List α} {i j : Nat} {a b : α} (h : (l.set i a)[j]? = some b) : (i = j ∧ b = a ∧ i < l.length) ∨ (i ≠ j ∧ l[j]? = some b) := by
  by_cases z : i = j
  · subst z
    by_cases hi : i < l.length
    · rw [List.getElem?_set_self hi] at h
      cases h
      exact .inl ⟨rfl, rfl, hi⟩
    · rw [List.getElem?_eq_none (by simp; omega)] at h
      cases h
  · rw [List.getElem?_set_ne z] at h
    exact .inr ⟨z, h⟩
/-- a name is stored -/
theorem Rel.set (r : Rel K Fz ba G σ H Hs) {i : Nat} {v : V} {x : R} (h : Res K Fz G σ H Hs v x) : Rel K Fz ba (G.set i x.ent) (σ.set i (some v)) H Hs where
  sub := r.sub
  fz := r.fz
  len := by rw [List.length_set, List.length_set]; exact r.len
  im := fun j d e => by
    rcases get_set e with ⟨rfl, e1, hi⟩ | ⟨z, e1⟩
    · refine ⟨v, by rw [List.getElem?_set_self (by rw [r.len]; exact hi)], ?_⟩
      cases x with
      | im d' => cases e1; exact h
      | ow ds => cases e1
    · obtain ⟨v', h1, h2⟩ := r.im j d e1
      exact ⟨v', by rw [List.getElem?_set_ne z]; exact h1, h2⟩
  mu := fun j en ds e e0 => by
    rcases get_set e with ⟨rfl, e1, hi⟩ | ⟨z, e1⟩
    · cases x with
      | im d' => subst e1; cases e0
      | ow ds' =>
        subst e1
        cases e0
        obtain ⟨p, vs, rfl, h1, h2, h3, h4, _⟩ := h
        exact ⟨p, vs, by rw [List.getElem?_set_self (by rw [r.len]; exact hi)], h1, h2, h3, h4⟩
    · obtain ⟨l, vs, h1, h2⟩ := r.mu j en ds e1 e0
      exact ⟨l, vs, by rw [List.getElem?_set_ne z]; exact h1, h2⟩
  dj := fun j k e e' l h1 h2 m1 m2 s1 s2 => by
    rcases get_set h1 with ⟨z1, e1, hi⟩ | ⟨z1, e1⟩
    · rcases get_set h2 with ⟨z2, e2, _⟩ | ⟨z2, e2⟩
      · exact z1.symm.trans z2
      · exfalso
        subst z1
        rw [List.getElem?_set_self (by rw [r.len]; exact hi)] at s1
        rw [List.getElem?_set_ne z2] at s2
        cases s1
        cases x with
        | im d' => subst e1; exact m1 rfl
        | ow ds' =>
          obtain ⟨p, vs, q, _, _, _, _, q2⟩ := h
          cases q
          exact q2 k e' e2 m2 s2
    · rcases get_set h2 with ⟨z2, e2, hi⟩ | ⟨z2, e2⟩
      · exfalso
        subst z2
        rw [List.getElem?_set_self (by rw [r.len]; exact hi)] at s2
        rw [List.getElem?_set_ne z1] at s1
        cases s2
        cases x with
        | im d' => subst e2; exact m2 rfl
        | ow ds' =>
          obtain ⟨p, vs, q, _, _, _, _, q2⟩ := h
          cases q
          exact q2 j e e1 m1 s1
      · rw [List.getElem?_set_ne z1] at s1
        rw [List.getElem?_set_ne z2] at s2
        exact r.dj j k e e' l e1 e2 m1 m2 s1 s2
  bx := fun j ds e => by
    rcases get_set e with ⟨_, e1, _⟩ | ⟨z, e1⟩
    · cases x <;> cases e1
    · rw [List.getElem?_set_ne z]
      exact r.bx j ds e1
/-- a slot is forgotten -/
theorem Rel.forget (r : Rel K Fz ba G σ H Hs) (i : Nat) : Rel K Fz ba (G.set i .un) (σ.set i none) H Hs where
  sub := r.sub
  fz := r.fz
  len := by rw [List.length_set, List.length_set]; exact r.len
  im := fun j d e => by
    rcases get_set e with ⟨_, e1, _⟩ | ⟨z, e1⟩
    · cases e1
    · rw [List.getElem?_set_ne z]
      exact r.im j d e1
  mu := fun j en ds e e0 => by
    rcases get_set e with ⟨_, e1, _⟩ | ⟨z, e1⟩
    · subst e1; cases e0
    · rw [List.getElem?_set_ne z]
      exact r.mu j en ds e1 e0
  dj := fun j k e e' l h1 h2 m1 m2 s1 s2 => by
    rcases get_set h1 with ⟨_, e1, _⟩ | ⟨z1, e1⟩
    · subst e1; exact absurd rfl m1
    · rcases get_set h2 with ⟨_, e2, _⟩ | ⟨z2, e2⟩
      · subst e2; exact absurd rfl m2
      · rw [List.getElem?_set_ne z1] at s1
        rw [List.getElem?_set_ne z2] at s2
        exact r.dj j k e e' l e1 e2 m1 m2 s1 s2
  bx := fun j ds e => by
    rcases get_set e with ⟨_, e1, _⟩ | ⟨z, e1⟩
    · cases e1
    · rw [List.getElem?_set_ne z]
      exact r.bx j ds e1
end
def GOk (K : PySem.W.Frag) (t : TE) (f : M R) : Prop := ∀ Fz ba G σ H Hs r G', Rel K Fz ba G σ H Hs → f G = some (r, G') →
  ∀ Q : VK, (∀ v H' Hs', Rel K Fz ba G' σ H' Hs' → Same Hs Hs' → Res K Fz G' σ H' Hs' v r → Q v H') → t σ H Q
def TOk (K : PySem.W.Frag) (t : TT) (f : M Bool) : Prop := ∀ Fz ba G σ H Hs b G', Rel K Fz ba G σ H Hs → f G = some (b, G') →
  ∀ Q : Bool → Hp → Prop, (∀ H' Hs', Rel K Fz ba G' σ H' Hs' → Same Hs Hs' → Q b H') → t σ H Q
def AOk (K : PySem.W.Frag) (t : TA) (f : M (List D)) : Prop := ∀ Fz ba G σ H Hs ds G', Rel K Fz ba G σ H Hs → f G = some (ds, G') →
  ∀ Q : List V → Hp → Prop, (∀ vs H' Hs', Rel K Fz ba G' σ H' Hs' → Same Hs Hs' → DRs K Hs' vs ds → Q vs H') → t σ H Q
inductive Fl where
  | nx | bk | ct | rt (r : R)
abbrev MS := Gam → Option (Fl × Gam)
def Post (K : PySem.W.Frag) (Fz : Hp) (ba : Nat → Addr) (G' : Gam) (Hs : Hp) (Dn : Ends) : Fl → Prop
  | .nx => ∀ σ' H' Hs', Rel K Fz ba G' σ' H' Hs' → Same Hs Hs' → Dn.nx σ' H'
  | .bk => ∀ σ' H' Hs', Rel K Fz ba G' σ' H' Hs' → Same Hs Hs' → Dn.bk σ' H'
  | .ct => ∀ σ' H' Hs', Rel K Fz ba G' σ' H' Hs' → Same Hs Hs' → Dn.ct σ' H'
  | .rt r => ∀ v σ' H' Hs', Rel K Fz ba G' σ' H' Hs' → Same Hs Hs' → Res K Fz G' σ' H' Hs' v r → Dn.rt v H'
def SOk (K : PySem.W.Frag) (t : TS) (f : MS) : Prop := ∀ Fz ba G σ H Hs fl G', Rel K Fz ba G σ H Hs → f G = some (fl, G') → ∀ Dn : Ends, Post K Fz ba G' Hs Dn fl → t Dn σ H
theorem Post.mono {K : PySem.W.Frag} {Fz : Hp} {ba : Nat → Addr} {G' : Gam} {Hs Hs1 : Hp} {Dn : Ends} {fl : Fl} (h : Post K Fz ba G' Hs Dn fl) (s : Same Hs Hs1) : Post K Fz ba G' Hs1 Dn fl := by
  cases fl with
  | nx => exact fun σ' H' Hs' r q => h σ' H' Hs' r (s.trans q)
  | bk => exact fun σ' H' Hs' r q => h σ' H' Hs' r (s.trans q)
  | ct => exact fun σ' H' Hs' r q => h σ' H' Hs' r (s.trans q)
  | rt x => exact fun v σ' H' Hs' r q => h v σ' H' Hs' r (s.trans q)
/-- a target: which slots it writes -/
structure GtOk (K : PySem.W.Frag) (g : TG) (f : D → Gam → Option Gam) (js : List Nat) : Prop where
  run : ∀ Fz ba G σ H Hs v d G', Rel K Fz ba G σ H Hs → DR K Hs v d → f d G = some G' → ∀ Q : L2.St → Hp → Prop, (∀ σ', Rel K Fz ba G' σ' H Hs → σ'.length = σ.length → (∀ i : Nat, i ∉ js → σ'[i]? = σ[i]?) → Q σ' H) → g v σ H Q
/-- an iterator gives the items ds -/
structure Yl (K : PySem.W.Frag) (J : It) (ds : List D) (Hs0 : Hp) : Prop where
  go : ∀ i H, Same Hs0 H → i < ds.length → J.go i H
  stop : ∀ i H, Same Hs0 H → ds.length ≤ i → J.stop i H
  yld : ∀ i x H H' Hs, i < ds.length → Same Hs0 Hs → Same Hs H → J.yld i H x H' → ∃ d Hs', ds[i]? = some d ∧ Ext H Hs H' Hs' ∧ DR K Hs' x d
def IOk (K : PySem.W.Frag) (w : TI) (f : M (List D)) : Prop := ∀ Fz ba G σ H Hs ds G', Rel K Fz ba G σ H Hs → f G = some (ds, G') →
  ∀ Q : It → Hp → Prop, (∀ J H' Hs', Rel K Fz ba G' σ H' Hs' → Same Hs Hs' → Yl K J ds Hs' → Q J H') → w σ H Q
/-- a result that was laid behind H -/
def ResF (K : PySem.W.Frag) (H H' Hs' : Hp) (v : V) : R → Prop
  | .im d => DR K Hs' v d
  | .ow m => ∃ p o, v = .ref p ∧ H p = none ∧ H' p = some o ∧ Hs' p = none ∧ MobO K Hs' m o
theorem ResF.res {K : PySem.W.Frag} {Fz : Hp} {ba : Nat → Addr} {G : Gam} {σ : L2.St} {H Hs H' Hs' : Hp} {v : V} {x : R} (r : Rel K Fz ba G σ H Hs) (h : ResF K H H' Hs' v x) : Res K Fz G σ H' Hs' v x := by
  cases x with
  | im d => exact h
  | ow ds =>
    obtain ⟨p, vs, rfl, h1, h2, h3, h4⟩ := h
    refine ⟨p, vs, rfl, h2, h3, ?_, h4, fun i e g m q => ?_⟩
    · cases z : Fz p with
      | none => rfl
      | some o =>
        obtain ⟨z1, _⟩ := r.fz p o z
        rw [h1] at z1
        cases z1
    · obtain ⟨ds', hd⟩ : ∃ ds', e.mu = some ds' := by
        cases z : e.mu with
        | none => exact absurd z m
        | some ds' => exact ⟨ds', rfl⟩
      obtain ⟨l, ws, q1, q2, _⟩ := r.mu i e ds' g hd
      rw [q] at q1
      cases q1
      rw [h1] at q2
      cases q2
end Bk
namespace Bk
open PySem L2
def bd {α β : Type} (x : Option (α × Gam)) (f : α → Gam → Option β) : Option β := match x with
  | none => none
  | some (a, G) => f a G
@[simp] theorem bd_none {α β : Type} {f : α → Gam → Option β} : bd (none : Option (α × Gam)) f = none := rfl
@[simp] theorem bd_some {α β : Type} {a : α} {G : Gam} {f : α → Gam → Option β} : bd (some (a, G)) f = f a G := rfl
theorem bd_inv {α β : Type} {x : Option (α × Gam)} {f : α → Gam → Option β} {r : β} (h : bd x f = some r) : ∃ a G, x = some (a, G) ∧ f a G = some r := by
  cases x with
  | none => cases h
  | some p => exact ⟨p.1, p.2, rfl, h⟩
def xv (i : Nat) : M R := fun G => match G[i]? with
  | some (.im d) => some (.im d, G)
  | some (.ow m) => some (.im m.d, G.set i (.im m.d))
  | _ => none
/-- the name's list, which the name gives away -/
def xmv (i : Nat) : M R := fun G => match G[i]? with
  | some (.im d) => some (.im d, G)
  | some (.ow m) => some (.ow m, G.set i .un)
  | _ => none
def xc (d : D) : M R := fun G => some (.im d, G)
def xop (o : D → D → Option R) (a b : M R) : M R := fun G => bd (a G) fun x G1 => bd (b G1) fun y G2 => match o x.d y.d with
  | none => none
  | some r => some (r, G2)
def xun (o : D → Option R) (a : M R) : M R := fun G => bd (a G) fun x G1 => match o x.d with
  | none => none
  | some r => some (r, G1)
def xnil : M (List D) := fun G => some ([], G)
def xcons (a : M R) (r : M (List D)) : M (List D) := fun G => bd (a G) fun x G1 => bd (r G1) fun xs G2 => some (x.d :: xs, G2)
def xcb (o : List D → Option R) (a : M (List D)) : M R := fun G => bd (a G) fun xs G1 => match o xs with
  | none => none
  | some r => some (r, G1)
def few (n : Nat) : Bool := decide (n ≤ 16000000)
def xtup (a : M (List D)) : M R := fun G => bd (a G) fun xs G1 => if few xs.length then some (.im (.tup xs), G1) else none
def xlst (a : M (List D)) : M R := fun G => bd (a G) fun xs G1 => if few xs.length then some (.ol xs, G1) else none
def xif (t : M Bool) (a b : M R) : M R := fun G => bd (t G) fun k G1 => if k then a G1 else b G1
def xtest (a : M R) : M Bool := fun G => bd (a G) fun x G1 => match x.d with
  | .bl b => some (b, G1)
  | _ => none
def truth : D → Option Bool
  | .non => some false
  | .bl b => some b
  | .int i => some (i != 0)
  | .str x => if few x.length then some ((x.length : Int) != 0) else none
  | .lst xs => some (!xs.isEmpty)
  | .frz xs => some (!xs.isEmpty)
  | .tup xs => some (!xs.isEmpty)
  | _ => none
def xtru (a : M R) : M Bool := fun G => bd (a G) fun x G1 => match truth x.d with
  | some b => some (b, G1)
  | none => none
def xtand (a b : M Bool) : M Bool := fun G => bd (a G) fun k G1 => if k then b G1 else some (false, G1)
def xtor (a b : M Bool) : M Bool := fun G => bd (a G) fun k G1 => if k then some (true, G1) else b G1
def xtnot (a : M Bool) : M Bool := fun G => bd (a G) fun k G1 => some (!k, G1)
def xtyes : M Bool := fun G => some (true, G)
def xvand (a b : M R) : M R := fun G => bd (a G) fun x G1 => match x.d with
  | .bl k => if k then b G1 else some (.im (.bl false), G1)
  | _ => none
def xvor (a b : M R) : M R := fun G => bd (a G) fun x G1 => match x.d with
  | .bl k => if k then some (.im (.bl true), G1) else b G1
  | _ => none
def xvnot (a : M R) : M R := fun G => bd (a G) fun x G1 => match x.d with
  | .bl k => some (.im (.bl (!k)), G1)
  | _ => none
/-- a slice's part -/
abbrev MO := M (Option Int)
def xnop : MO := fun G => some (none, G)
def xpart (a : M R) : MO := fun G => bd (a G) fun x G1 => match x.d with
  | .int i => some (some i, G1)
  | _ => none
def xsl (o : D → Option Int → Option Int → Option R) (a : M R) (l h : MO) : M R := fun G => bd (a G) fun x G1 => bd (l G1) fun i G2 => bd (h G2) fun j G3 => match o x.d i j with
  | some r => some (r, G3)
  | none => none
def xcall (m : List D → Option R) (a : M (List D)) : M R := fun G => bd (a G) fun xs G1 => match m xs with
  | some r => some (r, G1)
  | none => none
def Ent.with (e : Ent) (m : Mob) : Ent := match e with
  | .ow _ => .ow m
  | .bx _ => .bx m
  | e => e
/-- a call that may change the list of the name at i -/
def isMu (G : Gam) (i : Nat) : Bool := match G[i]? with
  | some e => e.mu.isSome
  | none => false
def isLst (G : Gam) (i : Nat) : Bool := match G[i]? with
  | some e => match e.mu with
    | some (.l _) => true
    | _ => false
  | none => false
def callB (m : Mob → List D → Option (R × Mob)) (i : Nat) (xs : List D) (G1 : Gam) : Option (R × Gam) := match G1[i]? with
  | some e => match e.mu with
    | some bs => match m bs xs with
      | some (r, bs') => some (r, G1.set i (e.with bs'))
      | none => none
    | none => none
  | none => none
def xcallB (m : Mob → List D → Option (R × Mob)) (i : Nat) (a : M (List D)) : M R := fun G => if isMu G i then bd (a G) fun xs G1 => callB m i xs G1 else none
/-- an item of the name's list at i, a number -/
def ixv (i : Nat) (y : D) (G1 : Gam) : Option (R × Gam) := match y, G1[i]? with
  | .int k, some e => match e.mu with
    | some (.l ds) => match atI ds k with
      | some d => some (.im d, G1)
      | none => none
    | _ => none
  | _, _ => none
def xixv (i : Nat) (b : M R) : M R := fun G => if isMu G i then bd (b G) fun y G1 => ixv i y.d G1 else none
/-- one way for a name that owns a list, another for a name that holds a value -/
def xby (i : Nat) (a b : M R) : M R := fun G => if isMu G i then a G else b G
def xnext : MS := fun G => some (.nx, G)
def xseq (s t : MS) : MS := fun G => match s G with
  | some (.nx, G1) => t G1
  | o => o
def xasg (a : M R) (tg : D → Gam → Option Gam) : MS := fun G => bd (a G) fun x G1 => match tg x.d G1 with
  | some G2 => some (.nx, G2)
  | none => none
def xset (i : Nat) (a : M R) : MS := fun G => bd (a G) fun x G1 => some (.nx, G1.set i x.ent)
def xret (a : M R) : MS := fun G => bd (a G) fun x G1 => some (.rt x, G1)
def xdrop (a : M R) : MS := fun G => bd (a G) fun _ G1 => some (.nx, G1)
def xifs (t : M Bool) (a b : MS) : MS := fun G => bd (t G) fun k G1 => if k then a G1 else b G1
def xnever : MS := fun _ => none
/-- the name's list grows -/
def app (i : Nat) (x : D) (G1 : Gam) : Option (Fl × Gam) := match G1[i]? with
  | some e => match e.mu with
    | some (.l ds) => if few ds.length then some (.nx, G1.set i (e.with (.l (ds ++ [x])))) else none
    | _ => none
  | none => none
def xapp (i : Nat) (a : M R) : MS := fun G => if isLst G i then bd (a G) fun x G1 => app i x.d G1 else none
/-- an item of the name's list is stored -/
def put (i : Nat) (x k : D) (G2 : Gam) : Option (Fl × Gam) := match k, G2[i]? with
  | .int k, some e => match e.mu with
    | some (.l ds) => match ixN ds.length k with
      | some j => some (.nx, G2.set i (e.with (.l (ds.set j x))))
      | none => none
    | _ => none
  | _, _ => none
def xput (i : Nat) (a b : M R) : MS := fun G => bd (a G) fun x G1 => if isMu G1 i then bd (b G1) fun k G2 => put i x.d k.d G2 else none
def xwhileN (c : M Bool) (b : MS) : Nat → MS
  | 0, _ => none
  | n + 1, G => bd (c G) fun k G1 => if k then (match b G1 with
      | some (.nx, G2) => xwhileN c b n G2
      | some (.ct, G2) => xwhileN c b n G2
      | some (.bk, G2) => some (.nx, G2)
      | some (.rt r, G2) => some (.rt r, G2)
      | none => none) else some (.nx, G1)
def xwhile (fuel : Gam → Nat) (c : M Bool) (b : MS) : MS := fun G => xwhileN c b (fuel G) G
def xforL (tg : D → Gam → Option Gam) (b : MS) : List D → MS
  | [], G => some (.nx, G)
  | d :: ds, G => match tg d G with
    | none => none
    | some G1 => match b G1 with
      | some (.nx, G2) => xforL tg b ds G2
      | some (.ct, G2) => xforL tg b ds G2
      | some (.bk, G2) => some (.nx, G2)
      | some (.rt r, G2) => some (.rt r, G2)
      | none => none
def xfor (it : M (List D)) (tg : D → Gam → Option Gam) (b : MS) : MS := fun G => bd (it G) fun ds G1 => xforL tg b ds G1
def tgn (i : Nat) : D → Gam → Option Gam := fun d G => some (G.set i (.im d))
def tgs : List (D → Gam → Option Gam) → List D → Gam → Option Gam
  | [], [], G => some G
  | t :: ts, d :: ds, G => match t d G with
    | some G1 => tgs ts ds G1
    | none => none
  | _, _, _ => none
def tgt (ts : List (D → Gam → Option Gam)) : D → Gam → Option Gam := fun d G => match d with
  | .tup ds => tgs ts ds G
  | _ => none
def wipeG (G : Gam) : List Nat → Gam
  | [] => G
  | v :: vs => (wipeG G vs).set v .un
def unw (G1 G2 : Gam) : List Nat → Gam
  | [] => G2
  | v :: vs => (unw G1 G2 vs).set v (G1.getD v .un)
def noMu (G : Gam) (vs : List Nat) : Bool := vs.all fun v => match G[v]? with
  | some e => e.mu.isNone
  | none => true
def xlcL (tg : D → Gam → Option Gam) (t : M Bool) (e : M R) (vs : List Nat) : List D → M (List D)
  | [], G => some ([], G)
  | d :: ds, G => match tg d G with
    | none => none
    | some G1 => bd (t G1) fun k G2 => if k then bd (e G2) fun x G3 => bd (xlcL tg t e vs ds (wipeG G3 vs)) fun out G4 => some (x.d :: out, G4)
        else xlcL tg t e vs ds (wipeG G2 vs)
def xlc (it : M (List D)) (tg : D → Gam → Option Gam) (t : M Bool) (e : M R) (vs : List Nat) : M R := fun G => bd (it G) fun ds G1 =>
  if noMu G1 vs then bd (xlcL tg t e vs ds (wipeG G1 vs)) fun out G2 => if few out.length then some (.ol out, unw G1 G2 vs) else none else none
def rng (lo : Int) (n : Nat) : List D := (List.range n).map fun (i : Nat) => .int (lo + (i : Int))
def okR (i : Int) : Bool := decide (-(2 ^ 62) ≤ i) && decide (i < 2 ^ 62)
def xrange1 (a : M (List D)) : M (List D) := fun G => bd (a G) fun xs G1 => match xs with
  | [.int n] => if okR n then some (rng 0 n.toNat, G1) else none
  | _ => none
def asL : D → Option (List D)
  | .lst ds => some ds
  | .frz ds => some ds
  | _ => none
def enumD (k : Nat) : List D → List D
  | [] => []
  | d :: ds => .tup [.int (k : Int), d] :: enumD (k + 1) ds
section
variable {K : PySem.W.Frag}
theorem few_ok {n : Nat} (h : few n = true) : n ≤ sizeLine := Nat.le_trans (of_decide_eq_true h) (by decide)
theorem few_lt {n : Nat} (h : few n = true) : n < sizeLine := Nat.lt_of_le_of_lt (of_decide_eq_true h) (by decide)
/-- an expression, its value shared -/
theorem GOk.im {t : TE} {f : M R} (h : GOk K t f) {Fz : Hp} {ba : Nat → Addr} {G : Gam} {σ : L2.St} {H Hs : Hp} {r : R} {G' : Gam} (q : Rel K Fz ba G σ H Hs) (e : f G = some (r, G')) {Q : VK}
    (k : ∀ v H' Hs', Rel K Fz ba G' σ H' Hs' → Same Hs Hs' → DR K Hs' v r.d → Q v H') : t σ H Q :=
  h Fz ba G σ H Hs r G' q e Q fun v H' Hs' q' s x => by
    obtain ⟨Hs2, q2, s2, d⟩ := q'.fzr x
    exact k v H' Hs2 q2 (s.trans s2) d
theorem gk_c {v : V} {d : D} (h : ∀ H, DR K H v d) : GOk K (tC v) (xc d) := fun Fz ba G σ H Hs r G' q e Q k => by
  cases e
  exact k v H Hs q (Same.refl _) (h Hs)
theorem gk_int {i : Int} : GOk K (tC (.int i)) (xc (.int i)) := gk_c fun _ => .int i
theorem gk_bl {b : Bool} : GOk K (tC (.bl b)) (xc (.bl b)) := gk_c fun _ => .bl b
theorem gk_non : GOk K (tC .non) (xc .non) := gk_c fun _ => .non
theorem gk_str {x : PySem.Str} : GOk K (tC (.str x)) (xc (.str x)) := gk_c fun _ => .str x
theorem Rel.notmu {Fz : Hp} {ba : Nat → Addr} {G : Gam} {σ : L2.St} {H Hs : Hp} (q : Rel K Fz ba G σ H Hs) {i : Nat} {e e2 : Ent} {l : Addr} (h1 : G[i]? = some e) (m1 : e.mu ≠ none) (s1 : σ[i]? = some (some (.ref l))) :
    ∀ (j : Nat) (e' : Ent), (G.set i e2)[j]? = some e' → e2.mu = none → e'.mu ≠ none → σ[j]? ≠ some (some (.ref l)) := fun j e' h2 m0 m2 s2 => by
  rcases get_set h2 with ⟨_, e1, _⟩ | ⟨z, h3⟩
  · subst e1; exact m2 m0
  · exact z (q.dj i j e e' l h1 h3 m1 m2 s1 s2)
/-- the entry at i is another, that owns nothing -/
theorem Rel.re {Fz : Hp} {ba : Nat → Addr} {G : Gam} {σ : L2.St} {H Hs : Hp} (q : Rel K Fz ba G σ H Hs) {i : Nat} {e : Ent} (m : e.mu = none) (h : ∀ d, e = .im d → ∃ v, σ[i]? = some (some v) ∧ DR K Hs v d) : Rel K Fz ba (G.set i e) σ H Hs where
  sub := q.sub
  fz := q.fz
  len := by rw [List.length_set]; exact q.len
  im := fun j d h1 => by
    rcases get_set h1 with ⟨rfl, e1, _⟩ | ⟨z, h2⟩
    · exact h d e1.symm
    · exact q.im j d h2
  mu := fun j en ds h1 h0 => by
    rcases get_set h1 with ⟨rfl, e1, _⟩ | ⟨z, h2⟩
    · subst e1; rw [m] at h0; cases h0
    · exact q.mu j en ds h2 h0
  dj := fun j k e1 e2 l h1 h2 m1 m2 s1 s2 => by
    rcases get_set h1 with ⟨_, z1, _⟩ | ⟨z1, h1⟩
    · subst z1; exact absurd m m1
    · rcases get_set h2 with ⟨_, z2, _⟩ | ⟨z2, h2⟩
      · subst z2; exact absurd m m2
      · exact q.dj j k e1 e2 l h1 h2 m1 m2 s1 s2
  bx := fun j ds h1 => by
    rcases get_set h1 with ⟨_, e1, _⟩ | ⟨z, h2⟩
    · subst e1; cases m
    · exact q.bx j ds h2
theorem gk_var {i : Nat} : GOk K (tVar i) (xv i) := fun Fz ba G σ H Hs r G' q e Q k => by
  unfold xv at e
  cases h : G[i]? with
  | none => rw [h] at e; cases e
  | some en =>
    rw [h] at e
    cases en with
    | un => cases e
    | bx ds => cases e
    | im d =>
      cases e
      obtain ⟨v, h1, h2⟩ := q.im i d h
      exact ⟨v, h1, k v H Hs q (Same.refl _) h2⟩
    | ow ds =>
      cases e
      obtain ⟨l, vs, h1, h2, h3, h4, h5⟩ := q.mu i _ ds h rfl
      have q1 : Rel K Fz ba (G.set i .un) σ H Hs := q.re rfl fun d z => nomatch z
      obtain ⟨q2, s2⟩ := q1.froze h2 h3 h4 fun j e' g m => q.notmu h (by simp [Ent.mu]) h1 j e' g rfl m
      have q3 : Rel K Fz ba ((G.set i .un).set i (.im ds.d)) σ H (upd Hs l vs) := q2.re rfl fun d z => by
        cases z
        exact ⟨_, h1, (h5.mono s2).dr upd_same⟩
      rw [List.set_set] at q3
      exact ⟨_, h1, k _ H _ q3 s2 ((h5.mono s2).dr upd_same)⟩
theorem gk_mv {i : Nat} : GOk K (tVar i) (xmv i) := fun Fz ba G σ H Hs r G' q e Q k => by
  unfold xmv at e
  cases h : G[i]? with
  | none => rw [h] at e; cases e
  | some en =>
    rw [h] at e
    cases en with
    | un => cases e
    | bx ds => cases e
    | im d =>
      cases e
      obtain ⟨v, h1, h2⟩ := q.im i d h
      exact ⟨v, h1, k v H Hs q (Same.refl _) h2⟩
    | ow ds =>
      cases e
      obtain ⟨l, vs, h1, h2, h3, h4, h5⟩ := q.mu i _ ds h rfl
      have q1 : Rel K Fz ba (G.set i .un) σ H Hs := q.re rfl fun d z => nomatch z
      exact ⟨_, h1, k _ H Hs q1 (Same.refl _) ⟨l, vs, rfl, h2, h3, h4, h5, fun j e' g m => q.notmu h (by simp [Ent.mu]) h1 j e' g rfl m⟩⟩
def OpD (K : PySem.W.Frag) (r : R2) (o : D → D → Option R) : Prop := ∀ H Hs x y dx dy res, Same Hs H → DR K Hs x dx → DR K Hs y dy → o dx dy = some res →
  ∀ Q : VK, (∀ v H' Hs', Ext H Hs H' Hs' → ResF K H H' Hs' v res → Q v H') → r x y H Q
def UnD (K : PySem.W.Frag) (r : V → Hp → VK → Prop) (o : D → Option R) : Prop := ∀ H Hs x dx res, Same Hs H → DR K Hs x dx → o dx = some res →
  ∀ Q : VK, (∀ v H' Hs', Ext H Hs H' Hs' → ResF K H H' Hs' v res → Q v H') → r x H Q
def CbD (K : PySem.W.Frag) (r : List V → Hp → VK → Prop) (o : List D → Option R) : Prop := ∀ H Hs xs ds res, Same Hs H → DRs K Hs xs ds → o ds = some res →
  ∀ Q : VK, (∀ v H' Hs', Ext H Hs H' Hs' → ResF K H H' Hs' v res → Q v H') → r xs H Q
def SlD (K : PySem.W.Frag) (r : V → Option Int → Option Int → Hp → VK → Prop) (o : D → Option Int → Option Int → Option R) : Prop := ∀ H Hs x dx l h res, Same Hs H → DR K Hs x dx → o dx l h = some res →
  ∀ Q : VK, (∀ v H' Hs', Ext H Hs H' Hs' → ResF K H H' Hs' v res → Q v H') → r x l h H Q
theorem gk_op {r : R2} {o : D → D → Option R} {ta tb : TE} {a b : M R} (ho : OpD K r o) (ha : GOk K ta a) (hb : GOk K tb b) : GOk K (tOp r ta tb) (xop o a b) := fun Fz ba G σ H Hs res G' q e Q k => by
  obtain ⟨x, G1, e1, e⟩ := bd_inv e
  obtain ⟨y, G2, e2, e⟩ := bd_inv e
  cases h : o x.d y.d with
  | none => rw [h] at e; cases e
  | some r' =>
    rw [h] at e
    cases e
    refine ha.im q e1 fun v1 H1 Hs1 q1 s1 d1 => ?_
    refine hb.im q1 e2 fun v2 H2 Hs2 q2 s2 d2 => ?_
    exact ho H2 Hs2 v1 v2 x.d y.d _ q2.sub (d1.mono s2) d2 h Q fun v H3 Hs3 ex rf => k v H3 Hs3 (q2.ext ex) ((s1.trans s2).trans ex.b) (rf.res q2)
theorem gk_un {r : V → Hp → VK → Prop} {o : D → Option R} {ta : TE} {a : M R} (ho : UnD K r o) (ha : GOk K ta a) : GOk K (tUn r ta) (xun o a) := fun Fz ba G σ H Hs res G' q e Q k => by
  obtain ⟨x, G1, e1, e⟩ := bd_inv e
  cases h : o x.d with
  | none => rw [h] at e; cases e
  | some r' =>
    rw [h] at e
    cases e
    refine ha.im q e1 fun v1 H1 Hs1 q1 s1 d1 => ?_
    exact ho H1 Hs1 v1 x.d _ q1.sub d1 h Q fun v H3 Hs3 ex rf => k v H3 Hs3 (q1.ext ex) (s1.trans ex.b) (rf.res q1)
theorem ak_nil : AOk K tNil xnil := fun Fz ba G σ H Hs ds G' q e Q k => by
  cases e
  exact k [] H Hs q (Same.refl _) .nil
theorem ak_cons {ta : TE} {tr : TA} {a : M R} {r : M (List D)} (ha : GOk K ta a) (hr : AOk K tr r) : AOk K (tCons ta tr) (xcons a r) := fun Fz ba G σ H Hs ds G' q e Q k => by
  obtain ⟨x, G1, e1, e⟩ := bd_inv e
  obtain ⟨xs, G2, e2, e⟩ := bd_inv e
  cases e
  refine ha.im q e1 fun v1 H1 Hs1 q1 s1 d1 => ?_
  exact hr Fz ba G1 σ H1 Hs1 xs _ q1 e2 _ fun vs H2 Hs2 q2 s2 d2 => k _ H2 Hs2 q2 (s1.trans s2) (.cons (d1.mono s2) d2)
theorem gk_cb {r : List V → Hp → VK → Prop} {o : List D → Option R} {ta : TA} {a : M (List D)} (ho : CbD K r o) (ha : AOk K ta a) : GOk K (tCB r ta) (xcb o a) := fun Fz ba G σ H Hs res G' q e Q k => by
  obtain ⟨xs, G1, e1, e⟩ := bd_inv e
  cases h : o xs with
  | none => rw [h] at e; cases e
  | some r' =>
    rw [h] at e
    cases e
    refine ha Fz ba G σ H Hs xs _ q e1 _ fun vs H1 Hs1 q1 s1 d1 => ?_
    exact ho H1 Hs1 vs xs _ q1.sub d1 h Q fun v H3 Hs3 ex rf => k v H3 Hs3 (q1.ext ex) (s1.trans ex.b) (rf.res q1)
theorem gk_tup {ta : TA} {a : M (List D)} (ha : AOk K ta a) : GOk K (tTup ta) (xtup a) := fun Fz ba G σ H Hs res G' q e Q k => by
  obtain ⟨xs, G1, e1, e⟩ := bd_inv e
  split at e
  · rename_i hf
    cases e
    refine ha Fz ba G σ H Hs xs _ q e1 _ fun vs H1 Hs1 q1 s1 d1 => ⟨by rw [d1.len]; exact few_ok hf, fun p hp => ?_⟩
    have ex : Ext H1 Hs1 (upd H1 p (.tup vs)) (upd Hs1 p (.tup vs)) := Ext.new q1.sub hp
    exact k _ _ _ (q1.ext ex) (s1.trans ex.b) (.tup (SqT.of upd_same) (d1.mono ex.b))
  · cases e
theorem gk_lst {ta : TA} {a : M (List D)} (ha : AOk K ta a) : GOk K (tLst ta) (xlst a) := fun Fz ba G σ H Hs res G' q e Q k => by
  obtain ⟨xs, G1, e1, e⟩ := bd_inv e
  split at e
  · rename_i hf
    cases e
    refine ha Fz ba G σ H Hs xs _ q e1 _ fun vs H1 Hs1 q1 s1 d1 => ⟨by rw [d1.len]; exact few_ok hf, fun p hp => ?_⟩
    have ex : Ext H1 Hs1 (upd H1 p (.lst vs)) Hs1 := Ext.hid q1.sub hp
    have rf : ResF K H1 (upd H1 p (.lst vs)) Hs1 (.ref p) (.ol xs) := ⟨p, _, rfl, hp, upd_same, none_sub q1.sub hp, vs, rfl, d1⟩
    exact k _ _ _ (q1.ext ex) (s1.trans ex.b) (rf.res q1)
  · cases e
theorem gk_if {t : TT} {ta tb : TE} {c : M Bool} {a b : M R} (hc : TOk K t c) (ha : GOk K ta a) (hb : GOk K tb b) : GOk K (tIf t ta tb) (xif c a b) := fun Fz ba G σ H Hs res G' q e Q k => by
  obtain ⟨x, G1, e1, e⟩ := bd_inv e
  refine hc Fz ba G σ H Hs x G1 q e1 _ fun H1 Hs1 q1 s1 => ?_
  cases x with
  | true => exact ha Fz ba G1 σ H1 Hs1 res G' q1 e Q fun v H2 Hs2 q2 s2 d => k v H2 Hs2 q2 (s1.trans s2) d
  | false => exact hb Fz ba G1 σ H1 Hs1 res G' q1 e Q fun v H2 Hs2 q2 s2 d => k v H2 Hs2 q2 (s1.trans s2) d
theorem dr_bl {H : Hp} {v : V} {b : Bool} (h : DR K H v (.bl b)) : v = .bl b := by cases h; rfl
theorem dr_int {H : Hp} {v : V} {i : Int} (h : DR K H v (.int i)) : v = .int i := by cases h; rfl
theorem tk_test {ta : TE} {a : M R} (ha : GOk K ta a) : TOk K (tTest ta) (xtest a) := fun Fz ba G σ H Hs b G' q e Q k => by
  obtain ⟨x, G1, e1, e⟩ := bd_inv e
  refine ha.im q e1 fun v H1 Hs1 q1 s1 d => ?_
  cases h : x.d with
  | bl c =>
    rw [h] at e d
    cases e
    exact ⟨_, dr_bl d, k H1 Hs1 q1 s1⟩
  | _ => rw [h] at e; cases e
theorem truth_ok {H : Hp} {v : V} {d : D} {b : Bool} (h : DR K H v d) (e : truth d = some b) : TruV K v H b := by
  have emp : ∀ {vs : List V} {ds : List D}, DRs K H vs ds → (!ds.isEmpty) = !vs.isEmpty := fun h => by cases h <;> rfl
  cases h with
  | non => cases e; rfl
  | bl b => cases e; rfl
  | int i => cases e; rfl
  | str x =>
    by_cases hf : few x.length = true
    · rw [show truth (.str x) = some ((x.length : Int) != 0) from if_pos hf] at e
      cases e
      exact ⟨few_ok hf, rfl⟩
    · rw [show truth (.str x) = none from if_neg hf] at e
      cases e
  | lst h hs => cases e; exact .inl ⟨_, SqL.of h, emp hs⟩
  | frz h hs => cases e; exact .inl ⟨_, h, emp hs⟩
  | tup h hs => cases e; exact .inr (.inl ⟨_, h, emp hs⟩)
  | _ => cases e
theorem tru_mono {x : V} {H H' : Hp} {k : Bool} (s : Same H H') (h : TruV K x H k) : TruV K x H' k := by
  cases x with
  | ref p =>
    rcases h with ⟨xs, h1, h2⟩ | ⟨xs, h1, h2⟩ | ⟨kvs, h1, h2⟩
    · exact .inl ⟨xs, same_lst s h1, h2⟩
    · exact .inr (.inl ⟨xs, same_tup s h1, h2⟩)
    · exact .inr (.inr ⟨kvs, s _ _ h1, h2⟩)
  | _ => exact h
theorem tk_tru {ta : TE} {a : M R} (ha : GOk K ta a) : TOk K (fun σ H Q => ta σ H fun x H' => ∃ k, TruV K x H' k ∧ Q k H') (xtru a) := fun Fz ba G σ H Hs b G' q e Q k => by
  obtain ⟨x, G1, e1, e⟩ := bd_inv e
  refine ha.im q e1 fun v H1 Hs1 q1 s1 d => ?_
  cases h : truth x.d with
  | none => rw [h] at e; cases e
  | some c =>
    rw [h] at e
    cases e
    exact ⟨_, tru_mono q1.sub (truth_ok d h), k H1 Hs1 q1 s1⟩
theorem tk_and {t u : TT} {a b : M Bool} (ha : TOk K t a) (hb : TOk K u b) : TOk K (tAnd t u) (xtand a b) := fun Fz ba G σ H Hs r G' q e Q k => by
  obtain ⟨x, G1, e1, e⟩ := bd_inv e
  refine ha Fz ba G σ H Hs x G1 q e1 _ fun H1 Hs1 q1 s1 => ?_
  cases x with
  | true => exact hb Fz ba G1 σ H1 Hs1 r G' q1 e Q fun H2 Hs2 q2 s2 => k H2 Hs2 q2 (s1.trans s2)
  | false => cases e; exact k H1 Hs1 q1 s1
theorem tk_or {t u : TT} {a b : M Bool} (ha : TOk K t a) (hb : TOk K u b) : TOk K (tOr t u) (xtor a b) := fun Fz ba G σ H Hs r G' q e Q k => by
  obtain ⟨x, G1, e1, e⟩ := bd_inv e
  refine ha Fz ba G σ H Hs x G1 q e1 _ fun H1 Hs1 q1 s1 => ?_
  cases x with
  | true => cases e; exact k H1 Hs1 q1 s1
  | false => exact hb Fz ba G1 σ H1 Hs1 r G' q1 e Q fun H2 Hs2 q2 s2 => k H2 Hs2 q2 (s1.trans s2)
theorem tk_not {t : TT} {a : M Bool} (ha : TOk K t a) : TOk K (tNot t) (xtnot a) := fun Fz ba G σ H Hs r G' q e Q k => by
  obtain ⟨x, G1, e1, e⟩ := bd_inv e
  cases e
  exact ha Fz ba G σ H Hs x _ q e1 _ fun H1 Hs1 q1 s1 => k H1 Hs1 q1 s1
theorem tk_yes : TOk K tYes xtyes := fun Fz ba G σ H Hs r G' q e Q k => by
  cases e
  exact k H Hs q (Same.refl _)
theorem gk_vand {ta tb : TE} {a b : M R} (ha : GOk K ta a) (hb : GOk K tb b) : GOk K (tAndV ta tb) (xvand a b) := fun Fz ba G σ H Hs res G' q e Q k => by
  obtain ⟨x, G1, e1, e⟩ := bd_inv e
  refine ha.im q e1 fun v H1 Hs1 q1 s1 d => ?_
  cases h : x.d with
  | bl c =>
    rw [h] at e d
    refine ⟨c, dr_bl d, ?_⟩
    cases c with
    | true => exact hb Fz ba G1 σ H1 Hs1 res G' q1 e Q fun v H2 Hs2 q2 s2 d => k v H2 Hs2 q2 (s1.trans s2) d
    | false => cases e; exact k _ H1 Hs1 q1 s1 (.bl false)
  | _ => rw [h] at e; cases e
theorem gk_vor {ta tb : TE} {a b : M R} (ha : GOk K ta a) (hb : GOk K tb b) : GOk K (tOrV ta tb) (xvor a b) := fun Fz ba G σ H Hs res G' q e Q k => by
  obtain ⟨x, G1, e1, e⟩ := bd_inv e
  refine ha.im q e1 fun v H1 Hs1 q1 s1 d => ?_
  cases h : x.d with
  | bl c =>
    rw [h] at e d
    refine ⟨c, dr_bl d, ?_⟩
    cases c with
    | false => exact hb Fz ba G1 σ H1 Hs1 res G' q1 e Q fun v H2 Hs2 q2 s2 d => k v H2 Hs2 q2 (s1.trans s2) d
    | true => cases e; exact k _ H1 Hs1 q1 s1 (.bl true)
  | _ => rw [h] at e; cases e
theorem gk_vnot {ta : TE} {a : M R} (ha : GOk K ta a) : GOk K (tNotV ta) (xvnot a) := fun Fz ba G σ H Hs res G' q e Q k => by
  obtain ⟨x, G1, e1, e⟩ := bd_inv e
  refine ha.im q e1 fun v H1 Hs1 q1 s1 d => ?_
  cases h : x.d with
  | bl c =>
    rw [h] at e d
    cases e
    exact ⟨c, dr_bl d, k _ H1 Hs1 q1 s1 (.bl _)⟩
  | _ => rw [h] at e; cases e
def POk (K : PySem.W.Frag) (t : TO) (f : MO) : Prop := ∀ Fz ba G σ H Hs o G', Rel K Fz ba G σ H Hs → f G = some (o, G') →
  ∀ Q : Option Int → Hp → Prop, (∀ H' Hs', Rel K Fz ba G' σ H' Hs' → Same Hs Hs' → Q o H') → t σ H Q
theorem pk_none : POk K tNoPart xnop := fun Fz ba G σ H Hs r G' q e Q k => by
  cases e
  exact k H Hs q (Same.refl _)
theorem pk_some {ta : TE} {a : M R} (ha : GOk K ta a) : POk K (tPart ta) (xpart a) := fun Fz ba G σ H Hs r G' q e Q k => by
  obtain ⟨x, G1, e1, e⟩ := bd_inv e
  refine ha.im q e1 fun v H1 Hs1 q1 s1 d => ?_
  cases h : x.d with
  | int i =>
    rw [h] at e d
    cases e
    exact ⟨i, dr_int d, k H1 Hs1 q1 s1⟩
  | _ => rw [h] at e; cases e
theorem gk_sl {r : V → Option Int → Option Int → Hp → VK → Prop} {o : D → Option Int → Option Int → Option R} {ta : TE} {tl th : TO} {a : M R} {l h : MO} (ho : SlD K r o) (ha : GOk K ta a) (hl : POk K tl l) (hh : POk K th h) : GOk K (tSl r ta tl th) (xsl o a l h) :=
  fun Fz ba G σ H Hs res G' q e Q k => by
  obtain ⟨x, G1, e1, e⟩ := bd_inv e
  obtain ⟨i, G2, e2, e⟩ := bd_inv e
  obtain ⟨j, G3, e3, e⟩ := bd_inv e
  cases h' : o x.d i j with
  | none => rw [h'] at e; cases e
  | some r1 =>
    rw [h'] at e
    cases e
    refine ha.im q e1 fun v1 H1 Hs1 q1 s1 d1 => ?_
    refine hl Fz ba G1 σ H1 Hs1 i G2 q1 e2 _ fun H2 Hs2 q2 s2 => ?_
    refine hh Fz ba G2 σ H2 Hs2 j _ q2 e3 _ fun H3 Hs3 q3 s3 => ?_
    exact ho H3 Hs3 v1 x.d i j _ q3.sub (d1.mono (s2.trans s3)) h' Q fun v H5 Hs5 ex5 rf5 => k v H5 Hs5 (q3.ext ex5) (((s1.trans s2).trans s3).trans ex5.b) (rf5.res q3)
end
end Bk
namespace Bk
open PySem L2
section
variable {K : PySem.W.Frag}
/-- a def that computes m -/
def spF (K : PySem.W.Frag) (m : List D → Option R) : Sp := fun vs H Q _ => ∃ Hs ds r, Same Hs H ∧ DRs K Hs vs ds ∧ m ds = some r ∧ ∀ v H' Hs', Ext H Hs H' Hs' → ResF K H H' Hs' v r → Q v H'
structure ExtB (l : Addr) (H Hs H' Hs' : Hp) : Prop where
  a : ∀ x o, x ≠ l → H x = some o → H' x = some o
  b : Same Hs Hs'
  c : Same Hs' H'
  n : ∀ x o, H x = some o → Hs x = none → Hs' x = none
/-- a def whose first argument is a list that it may change -/
def spB (K : PySem.W.Frag) (m : Mob → List D → Option (R × Mob)) : Sp := fun vs H Q _ => ∃ Hs l vs' bo bds ds r bds', vs = V.ref l :: vs' ∧ Same Hs H ∧ H l = some bo ∧ Hs l = none ∧ MobO K Hs bds bo ∧ DRs K Hs vs' ds ∧
  m bds ds = some (r, bds') ∧ ∀ v H' Hs' bo', ExtB l H Hs H' Hs' → H' l = some bo' → Hs' l = none → MobO K Hs' bds' bo' → ResF K H H' Hs' v r → Q v H'
theorem gk_call {m : List D → Option R} {E : XK} {ta : TA} {a : M (List D)} (ha : AOk K ta a) : GOk K (tCall (spF K m) [] E ta) (xcall m a) := fun Fz ba G σ H Hs res G' q e Q k => by
  obtain ⟨xs, G1, e1, e⟩ := bd_inv e
  cases h : m xs with
  | none => rw [h] at e; cases e
  | some r' =>
    rw [h] at e
    cases e
    refine ha Fz ba G σ H Hs xs _ q e1 _ fun vs H1 Hs1 q1 s1 d1 => ?_
    exact ⟨Hs1, xs, _, q1.sub, by rw [List.append_nil]; exact d1, h, fun v H3 Hs3 ex rf => k v H3 Hs3 (q1.ext ex) (s1.trans ex.b) (rf.res q1)⟩
theorem with_mu {e : Ent} {ds es : Mob} (h : e.mu = some ds) : (e.with es).mu = some es := by
  cases e with
  | un => cases h
  | im d => cases h
  | ow _ => rfl
  | bx _ => rfl
/-- the list of the name at i has changed -/
theorem Rel.mut {Fz : Hp} {ba : Nat → Addr} {G : Gam} {σ : L2.St} {H Hs H' Hs' : Hp} (q : Rel K Fz ba G σ H Hs) {i : Nat} {e : Ent} {ds es : Mob} {l : Addr} {ws : HO} (h : G[i]? = some e) (m : e.mu = some ds) (s : σ[i]? = some (some (.ref l)))
    (x : ExtB l H Hs H' Hs') (hl : H' l = some ws) (hn : Hs' l = none) (hd : MobO K Hs' es ws) : Rel K Fz ba (G.set i (e.with es)) σ H' Hs' := by
  obtain ⟨l0, vs0, z1, z2, z3, z4, _⟩ := q.mu i e ds h m
  rw [s] at z1
  cases z1
  have me : e.mu ≠ none := by rw [m]; simp
  refine ⟨x.c, fun a o f => ?_, by rw [List.length_set]; exact q.len, fun j d f => ?_, fun j en ds' f f0 => ?_, fun j k e1 e2 l' f1 f2 m1 m2 s1 s2 => ?_, fun j ds' f => ?_⟩
  · obtain ⟨f1, f2⟩ := q.fz a o f
    have ne : a ≠ l := ne_of_none f z4
    exact ⟨x.a a o ne f1, x.n a o f1 f2⟩
  · rcases get_set f with ⟨_, e1, _⟩ | ⟨_, f⟩
    · exfalso
      have z := with_mu (es := es) m
      rw [← e1] at z
      cases z
    · obtain ⟨v, g1, g2⟩ := q.im j d f
      exact ⟨v, g1, g2.mono x.b⟩
  · rcases get_set f with ⟨rfl, e1, _⟩ | ⟨z, f⟩
    · subst e1
      rw [with_mu m] at f0
      cases f0
      exact ⟨l, ws, s, hl, hn, z4, hd⟩
    · obtain ⟨l', vs, g1, g2, g3, g4, g5⟩ := q.mu j en ds' f f0
      have ne : l' ≠ l := fun y => by
        subst y
        exact z (q.dj i j e en l' h f me (by rw [f0]; simp) s g1)
      exact ⟨l', vs, g1, x.a l' _ ne g2, x.n l' _ g2 g3, g4, g5.mono x.b⟩
  · have old : ∀ {j : Nat} {en : Ent}, (G.set i (e.with es))[j]? = some en → en.mu ≠ none → ∃ en', G[j]? = some en' ∧ en'.mu ≠ none := fun {j en} f m' => by
      rcases get_set f with ⟨rfl, _, _⟩ | ⟨_, f⟩
      · exact ⟨e, h, me⟩
      · exact ⟨en, f, m'⟩
    obtain ⟨y1, a1, a2⟩ := old f1 m1
    obtain ⟨y2, b1, b2⟩ := old f2 m2
    exact q.dj j k y1 y2 l' a1 b1 a2 b2 s1 s2
  · rcases get_set f with ⟨rfl, e1, _⟩ | ⟨_, f⟩
    · cases e with
      | un => cases m
      | im d => cases m
      | ow _ => cases e1
      | bx bs => exact q.bx i bs h
    · exact q.bx j ds' f
theorem isMu_ok {G : Gam} {i : Nat} (h : isMu G i = true) : ∃ e ds, G[i]? = some e ∧ e.mu = some ds := by
  unfold isMu at h
  cases z : G[i]? with
  | none => rw [z] at h; cases h
  | some e =>
    rw [z] at h
    cases y : e.mu with
    | none => simp only [y] at h; cases h
    | some ds => exact ⟨e, ds, rfl, y⟩
theorem gk_callB {m : Mob → List D → Option (R × Mob)} {E : XK} {i : Nat} {ta : TA} {a : M (List D)} (ha : AOk K ta a) : GOk K (tCall (spB K m) [] E (tCons (tVar i) ta)) (xcallB m i a) := fun Fz ba G σ H Hs res G' q e Q k => by
  unfold xcallB at e
  split at e
  case isFalse => cases e
  rename_i hm
  obtain ⟨e0, ds0, y1, y2⟩ := isMu_ok hm
  obtain ⟨l, vs0, y3, _⟩ := q.mu i e0 ds0 y1 y2
  obtain ⟨xs, G1, e1, e⟩ := bd_inv e
  unfold callB at e
  cases h : G1[i]? with
  | none => rw [h] at e; cases e
  | some en =>
    cases h0 : en.mu with
    | none => simp only [h, h0] at e; cases e
    | some bs =>
      simp only [h, h0] at e
      cases h1 : m bs xs with
      | none => simp only [h1] at e; cases e
      | some p =>
        obtain ⟨r1, bs'⟩ := p
        simp only [h1] at e
        cases e
        refine ⟨_, y3, ?_⟩
        refine ha Fz ba G σ H Hs xs _ q e1 _ fun vs H1 Hs1 q1 s1 d1 => ?_
        obtain ⟨l', bvs, g1, g2, g3, g4, g5⟩ := q1.mu i en bs h h0
        rw [y3] at g1
        cases g1
        refine ⟨Hs1, l, vs, bvs, bs, xs, _, bs', by rw [List.append_nil], q1.sub, g2, g3, g5, d1, h1, fun v H3 Hs3 ws ex hl hn hd rf => ?_⟩
        have q3 := q1.mut h h0 y3 ex hl hn hd
        refine k v H3 Hs3 q3 (s1.trans ex.b) ?_
        cases res with
        | im d => exact rf
        | ow ds =>
          obtain ⟨p, vs, rfl, z1, z2, z3, z4⟩ := rf
          refine ⟨p, vs, rfl, z2, z3, ?_, z4, fun j en' g mm qq => ?_⟩
          · cases z : Fz p with
            | none => rfl
            | some o =>
              obtain ⟨w1, _⟩ := q1.fz p o z
              rw [z1] at w1
              cases w1
          · obtain ⟨ds', hd'⟩ : ∃ ds', en'.mu = some ds' := by
              cases z : en'.mu with
              | none => exact absurd z mm
              | some ds' => exact ⟨ds', rfl⟩
            have old : ∃ o, H1 p = some o := by
              rcases get_set g with ⟨rfl, _, _⟩ | ⟨_, g⟩
              · rw [y3] at qq
                cases qq
                exact ⟨_, g2⟩
              · obtain ⟨l2, ws2, q1', q2', _⟩ := q1.mu j en' ds' g hd'
                rw [qq] at q1'
                cases q1'
                exact ⟨_, q2'⟩
            obtain ⟨o, ho⟩ := old
            rw [z1] at ho
            cases ho
theorem Rel.same_slot {Fz : Hp} {ba : Nat → Addr} {G : Gam} {σ : L2.St} {H Hs : Hp} (q : Rel K Fz ba G σ H Hs) {i : Nat} (h : isMu G i = true) : ∃ l, σ[i]? = some (some (.ref l)) ∧
    ∀ G1 H1 Hs1 e ds, Rel K Fz ba G1 σ H1 Hs1 → G1[i]? = some e → e.mu = some ds → ∃ vs, H1 l = some vs ∧ Hs1 l = none ∧ MobO K Hs1 ds vs := by
  obtain ⟨e0, ds0, y1, y2⟩ := isMu_ok h
  obtain ⟨l, vs0, y3, _⟩ := q.mu i e0 ds0 y1 y2
  refine ⟨l, y3, fun G1 H1 Hs1 e ds q1 h1 h2 => ?_⟩
  obtain ⟨l', bvs, g1, g2, g3, g4, g5⟩ := q1.mu i e ds h1 h2
  rw [y3] at g1
  cases g1
  exact ⟨bvs, g2, g3, g5⟩
theorem at_ok {H : Hp} {vs : List V} {ds : List D} {k : Int} {d : D} (h : DRs K H vs ds) (e : atI ds k = some d) : ∃ v, atI vs k = some v ∧ DR K H v d := by
  unfold atI at e ⊢
  rw [h.len]
  cases z : ixN ds.length k with
  | none => rw [z] at e; cases e
  | some j =>
    rw [z] at e
    exact h.at (i := j) e
theorem gk_ixv {i : Nat} {tb : TE} {b : M R} (hb : GOk K tb b) : GOk K (tOp (rIx K) (tVar i) tb) (xixv i b) := fun Fz ba G σ H Hs res G' q e Q k => by
  unfold xixv at e
  split at e
  case isFalse => cases e
  rename_i hm
  obtain ⟨l, y3, yk⟩ := q.same_slot hm
  obtain ⟨y, G1, e1, e⟩ := bd_inv e
  refine ⟨_, y3, ?_⟩
  refine hb.im q e1 fun v H1 Hs1 q1 s1 d1 => ?_
  unfold ixv at e
  cases hy : y.d with
  | int n =>
    rw [hy] at d1 e
    cases h : G1[i]? with
    | none => simp only [h] at e; cases e
    | some en =>
      cases h0 : en.mu with
      | none => simp only [h, h0] at e; cases e
      | some mm =>
       cases mm with
       | o _ _ => simp only [h, h0] at e; cases e
       | l ds =>
        simp only [h, h0] at e
        cases h1 : atI ds n with
        | none => simp only [h1] at e; cases e
        | some d =>
          simp only [h1] at e
          cases e
          obtain ⟨_, z1, z2, vs, rfl, z3⟩ := yk _ H1 Hs1 en (.l ds) q1 h h0
          obtain ⟨w, w1, w2⟩ := at_ok z3 h1
          exact .inl ⟨l, vs, n, w, rfl, dr_int d1, SqL.of z1, w1, k w H1 Hs1 q1 s1 w2⟩
  | _ => simp only [hy] at e; cases e
def rLen (K : PySem.W.Frag) : List V → Hp → VK → Prop := fun xs H Q => ∃ x n, xs = [x] ∧ LenV K x H n ∧ Q (.int n) H
theorem gk_by {i : Nat} {t : TE} {a b : M R} (ha : GOk K t a) (hb : GOk K t b) : GOk K t (xby i a b) := fun Fz ba G σ H Hs res G' q e Q k => by
  unfold xby at e
  split at e
  · exact ha Fz ba G σ H Hs res G' q e Q k
  · exact hb Fz ba G σ H Hs res G' q e Q k
theorem sk_next : SOk K tNext xnext := fun Fz ba G σ H Hs fl G' q e Dn p => by
  cases e
  exact p σ H Hs q (Same.refl _)
theorem sk_seq {t u : TS} {a b : MS} (ha : SOk K t a) (hb : SOk K u b) : SOk K (tSeq t u) (xseq a b) := fun Fz ba G σ H Hs fl G' q e Dn p => by
  unfold xseq at e
  cases h : a G with
  | none => rw [h] at e; cases e
  | some x =>
    obtain ⟨f1, G1⟩ := x
    rw [h] at e
    refine ha Fz ba G σ H Hs f1 G1 q h { Dn with nx := u Dn } ?_
    cases f1 with
    | nx => exact fun σ1 H1 Hs1 q1 s1 => hb Fz ba G1 σ1 H1 Hs1 fl G' q1 e Dn (p.mono s1)
    | bk => cases e; exact p
    | ct => cases e; exact p
    | rt r => cases e; exact p
theorem sk_asg {ta : TE} {g : TG} {a : M R} {tg : D → Gam → Option Gam} {js : List Nat} (ha : GOk K ta a) (hg : GtOk K g tg js) : SOk K (tAsg ta g) (xasg a tg) := fun Fz ba G σ H Hs fl G' q e Dn p => by
  obtain ⟨x, G1, e1, e⟩ := bd_inv e
  cases h : tg x.d G1 with
  | none => rw [h] at e; cases e
  | some G2 =>
    rw [h] at e
    cases e
    refine ha.im q e1 fun v H1 Hs1 q1 s1 d1 => ?_
    exact hg.run Fz ba G1 σ H1 Hs1 v x.d _ q1 d1 h _ fun σ' q2 _ _ => p σ' H1 Hs1 q2 s1
theorem sk_set {i : Nat} {ta : TE} {a : M R} (ha : GOk K ta a) : SOk K (tAsg ta (gName i)) (xset i a) := fun Fz ba G σ H Hs fl G' q e Dn p => by
  obtain ⟨x, G1, e1, e⟩ := bd_inv e
  cases e
  exact ha Fz ba G σ H Hs x _ q e1 _ fun v H1 Hs1 q1 s1 r1 => p _ H1 Hs1 (q1.set r1) s1
theorem sk_ret {ta : TE} {a : M R} (ha : GOk K ta a) : SOk K (tRet ta) (xret a) := fun Fz ba G σ H Hs fl G' q e Dn p => by
  obtain ⟨x, G1, e1, e⟩ := bd_inv e
  cases e
  exact ha Fz ba G σ H Hs x _ q e1 _ fun v H1 Hs1 q1 s1 r1 => p v σ H1 Hs1 q1 s1 r1
theorem sk_drop {ta : TE} {a : M R} (ha : GOk K ta a) : SOk K (tDrop ta) (xdrop a) := fun Fz ba G σ H Hs fl G' q e Dn p => by
  obtain ⟨x, G1, e1, e⟩ := bd_inv e
  cases e
  exact ha Fz ba G σ H Hs x _ q e1 _ fun v H1 Hs1 q1 s1 r1 => p σ H1 Hs1 q1 s1
theorem sk_if {t : TT} {u w : TS} {c : M Bool} {a b : MS} (hc : TOk K t c) (ha : SOk K u a) (hb : SOk K w b) : SOk K (tIfS t u w) (xifs c a b) := fun Fz ba G σ H Hs fl G' q e Dn p => by
  obtain ⟨x, G1, e1, e⟩ := bd_inv e
  refine hc Fz ba G σ H Hs x G1 q e1 _ fun H1 Hs1 q1 s1 => ?_
  cases x with
  | true => exact ha Fz ba G1 σ H1 Hs1 fl G' q1 e Dn (p.mono s1)
  | false => exact hb Fz ba G1 σ H1 Hs1 fl G' q1 e Dn (p.mono s1)
theorem sk_never : SOk K tNever xnever := fun Fz ba G σ H Hs fl G' q e Dn p => by cases e
theorem extB_upd {H Hs : Hp} {l : Addr} {o : HO} (s : Same Hs H) (n : Hs l = none) : ExtB l H Hs (upd H l o) Hs :=
  ⟨fun x u ne e => by rw [upd_ne ne]; exact e, Same.refl _, fun a u e => by rw [upd_ne (ne_of_none e n)]; exact s a u e, fun x u _ h => h⟩
theorem isLst_ok {G : Gam} {i : Nat} (h : isLst G i = true) : ∃ e ds, G[i]? = some e ∧ e.mu = some (.l ds) := by
  unfold isLst at h
  cases z : G[i]? with
  | none => rw [z] at h; cases h
  | some e =>
    rw [z] at h
    cases y : e.mu with
    | none => simp only [y] at h; cases h
    | some m =>
      cases m with
      | o _ _ => simp only [y] at h; cases h
      | l ds => exact ⟨e, ds, rfl, y⟩
theorem isLst_mu {G : Gam} {i : Nat} (h : isLst G i = true) : isMu G i = true := by
  obtain ⟨e, ds, h1, h2⟩ := isLst_ok h
  unfold isMu
  rw [h1]
  simp only [h2]
  rfl
theorem sk_app {i : Nat} {te : TE} {a : M R} (ha : GOk K te a) : SOk K (tDrop (tBM K "list" rAppend (tVar i) (tCons te tNil))) (xapp i a) := fun Fz ba G σ H Hs fl G' q e Dn p => by
  unfold xapp at e
  split at e
  case isFalse => cases e
  rename_i hm
  obtain ⟨l, y3, yk⟩ := q.same_slot (isLst_mu hm)
  obtain ⟨x, G1, e1, e⟩ := bd_inv e
  obtain ⟨e0, ds0, y1, y2⟩ := isLst_ok hm
  obtain ⟨_, w1, _, vs0, rfl, _⟩ := yk G H Hs e0 _ q y1 y2
  refine ⟨_, y3, .inl ⟨rfl, vs0, SqL.of w1⟩, ?_⟩
  refine ha.im q e1 fun v H1 Hs1 q1 s1 d1 => ?_
  unfold app at e
  cases h : G1[i]? with
  | none => simp only [h] at e; cases e
  | some en =>
    cases h0 : en.mu with
    | none => simp only [h, h0] at e; cases e
    | some mm =>
     cases mm with
     | o _ _ => simp only [h, h0] at e; cases e
     | l ds =>
      simp only [h, h0] at e
      split at e
      case isFalse => cases e
      rename_i hf
      cases e
      obtain ⟨_, z1, z2, vs, rfl, z3⟩ := yk _ H1 Hs1 en _ q1 h h0
      refine ⟨l, vs, v, rfl, rfl, z1, by rw [z3.len]; exact few_lt hf, ?_⟩
      exact p σ _ Hs1 (q1.mut h h0 y3 (extB_upd q1.sub z2) upd_same z2 ⟨_, rfl, z3.app (.cons d1 .nil)⟩) s1
theorem sk_put {i : Nat} {te tk : TE} {a b : M R} (ha : GOk K te a) (hb : GOk K tk b) : SOk K (tAsg te (gSub (tVar i) tk rSetL)) (xput i a b) := fun Fz ba G σ H Hs fl G' q e Dn p => by
  obtain ⟨x, G1, e1, e⟩ := bd_inv e
  split at e
  case isFalse => cases e
  rename_i hm
  obtain ⟨k, G2, e2, e⟩ := bd_inv e
  refine ha.im q e1 fun v H1 Hs1 q1 s1 d1 => ?_
  obtain ⟨l, y3, yk⟩ := q1.same_slot hm
  refine ⟨_, y3, ?_⟩
  refine hb.im q1 e2 fun w H2 Hs2 q2 s2 d2 => ?_
  unfold put at e
  cases hy : k.d with
  | int n =>
    rw [hy] at d2 e
    cases h : G2[i]? with
    | none => simp only [h] at e; cases e
    | some en =>
      cases h0 : en.mu with
      | none => simp only [h, h0] at e; cases e
      | some mm =>
       cases mm with
       | o _ _ => simp only [h, h0] at e; cases e
       | l ds =>
        simp only [h, h0] at e
        cases h1 : ixN ds.length n with
        | none => simp only [h1] at e; cases e
        | some j =>
          simp only [h1] at e
          cases e
          obtain ⟨_, z1, z2, vs, rfl, z3⟩ := yk _ H2 Hs2 en _ q2 h h0
          refine ⟨l, vs, n, j, rfl, dr_int d2, z1, by rw [z3.len]; exact h1, ?_⟩
          exact p σ _ Hs2 (q2.mut h h0 y3 (extB_upd q2.sub z2) upd_same z2 ⟨_, rfl, DRs.set (d1.mono s2) j z3⟩) (s1.trans s2)
  | _ => simp only [hy] at e; cases e
theorem gt_name {i : Nat} : GtOk K (gName i) (tgn i) [i] := ⟨fun Fz ba G σ H Hs v d G' q r e Q k => by
  cases e
  exact k _ (q.set (x := .im d) r) List.length_set fun j hj => List.getElem?_set_ne fun z => hj (by rw [z]; exact List.mem_cons_self)⟩
structure GtsOk (K : PySem.W.Frag) (g : TGs) (f : List D → Gam → Option Gam) (js : List Nat) : Prop where
  run : ∀ Fz ba G σ H Hs vs ds G', Rel K Fz ba G σ H Hs → DRs K Hs vs ds → f ds G = some G' → ∀ Q : L2.St → Hp → Prop, (∀ σ', Rel K Fz ba G' σ' H Hs → σ'.length = σ.length → (∀ i : Nat, i ∉ js → σ'[i]? = σ[i]?) → Q σ' H) → g vs σ H Q
theorem gts_nil : GtsOk K gNil (tgs []) [] := ⟨fun Fz ba G σ H Hs vs ds G' q r e Q k => by
  cases r with
  | nil => cases e; exact ⟨rfl, k σ q rfl fun _ _ => rfl⟩
  | cons _ _ => cases e⟩
theorem gts_cons {t : TG} {u : TGs} {f : D → Gam → Option Gam} {fs : List (D → Gam → Option Gam)} {js ks : List Nat} (h : GtOk K t f js) (hs : GtsOk K u (tgs fs) ks) : GtsOk K (gCons t u) (tgs (f :: fs)) (js ++ ks) := ⟨fun Fz ba G σ H Hs vs ds G' q r e Q k => by
  cases r with
  | nil => cases e
  | @cons v vs d ds r1 r2 =>
    have e' : (match f d G with | some G1 => tgs fs ds G1 | none => none) = some G' := e
    cases h1 : f d G with
    | none => rw [h1] at e'; cases e'
    | some G1 =>
      rw [h1] at e'
      refine ⟨v, vs, rfl, h.run Fz ba G σ H Hs v d G1 q r1 h1 _ fun σ1 q1 l1 k1 => ?_⟩
      refine hs.run Fz ba G1 σ1 H Hs vs ds G' q1 r2 e' _ fun σ2 q2 l2 k2 => ?_
      exact k σ2 q2 (l2.trans l1) fun i hi => (k2 i fun z => hi (List.mem_append_right _ z)).trans (k1 i fun z => hi (List.mem_append_left _ z))⟩
theorem tgs_len : ∀ {fs : List (D → Gam → Option Gam)} {ds : List D} {G G' : Gam}, tgs fs ds G = some G' → ds.length = fs.length
  | [], [], _, _, _ => rfl
  | [], _ :: _, _, _, e => by cases e
  | _ :: _, [], _, _, e => by cases e
  | f :: fs, d :: ds, G, G', e => by
    have e' : (match f d G with | some G1 => tgs fs ds G1 | none => none) = some G' := e
    cases h1 : f d G with
    | none => rw [h1] at e'; cases e'
    | some G1 =>
      rw [h1] at e'
      exact congrArg Nat.succ (tgs_len e')
theorem gt_tup {u : TGs} {fs : List (D → Gam → Option Gam)} {js : List Nat} (h : GtsOk K u (tgs fs) js) : GtOk K (gTup K fs.length u) (tgt fs) js := ⟨fun Fz ba G σ H Hs v d G' q r e Q k => by
  cases r with
  | tup ht hd => exact ⟨_, _, rfl, same_tup q.sub ht, by rw [hd.len]; exact tgs_len e, h.run Fz ba G σ H Hs _ _ G' q hd e Q k⟩
  | _ => cases e⟩
theorem sk_while {t : TT} {u : TS} {c : M Bool} {b : MS} (fuel : Gam → Nat) (hc : TOk K t c) (hb : SOk K u b) : SOk K (tWhile t u) (xwhile fuel c b) := fun Fz ba G σ H Hs fl G' q e Dn p => by
  refine ⟨fun m σ1 H1 => ∃ G1 Hs1, Rel K Fz ba G1 σ1 H1 Hs1 ∧ Same Hs Hs1 ∧ xwhileN c b m G1 = some (fl, G'), ⟨fuel G, G, Hs, q, Same.refl _, e⟩, ?_⟩
  rintro m σ1 H1 ⟨G1, Hs1, q1, s1, e1⟩
  cases m with
  | zero => cases e1
  | succ n =>
    obtain ⟨x, G2, e2, e3⟩ := bd_inv e1
    refine hc Fz ba G1 σ1 H1 Hs1 x G2 q1 e2 _ fun H2 Hs2 q2 s2 => ?_
    cases x with
    | false => cases e3; exact p σ1 H2 Hs2 q2 (s1.trans s2)
    | true =>
      refine ⟨fun σ' H' => ∃ G3 Hs3, Rel K Fz ba G3 σ' H' Hs3 ∧ Same Hs Hs3 ∧ xwhileN c b n G3 = some (fl, G'), fun σ' H' ⟨G3, Hs3, a1, a2, a3⟩ => ⟨n, Nat.lt_succ_self n, G3, Hs3, a1, a2, a3⟩, ?_⟩
      rw [if_pos rfl] at e3
      cases hbG : b G2 with
      | none => rw [hbG] at e3; cases e3
      | some y =>
        obtain ⟨f1, G3⟩ := y
        rw [hbG] at e3
        refine hb Fz ba G2 σ1 H2 Hs2 f1 G3 q2 hbG _ ?_
        cases f1 with
        | nx => exact fun σ' H' Hs' a1 a2 => ⟨G3, Hs', a1, (s1.trans s2).trans a2, e3⟩
        | ct => exact fun σ' H' Hs' a1 a2 => ⟨G3, Hs', a1, (s1.trans s2).trans a2, e3⟩
        | bk => cases e3; exact fun σ' H' Hs' a1 a2 => p σ' H' Hs' a1 ((s1.trans s2).trans a2)
        | rt r => cases e3; exact fun v σ' H' Hs' a1 a2 a3 => p v σ' H' Hs' a1 ((s1.trans s2).trans a2) a3
theorem sk_for {w : TI} {g : TG} {u : TS} {it : M (List D)} {tg : D → Gam → Option Gam} {js : List Nat} {b : MS} (hi : IOk K w it) (hg : GtOk K g tg js) (hb : SOk K u b) : SOk K (tFor w g u) (xfor it tg b) := fun Fz ba G σ H Hs fl G' q e Dn p => by
  obtain ⟨ds, G1, e1, e⟩ := bd_inv e
  refine hi Fz ba G σ H Hs ds G1 q e1 _ fun J H1 Hs1 q1 s1 Y => ?_
  refine ⟨fun i m σ2 H2 => m = ds.length - i ∧ i ≤ ds.length ∧ ∃ G2 Hs2, Rel K Fz ba G2 σ2 H2 Hs2 ∧ Same Hs1 Hs2 ∧ xforL tg b (ds.drop i) G2 = some (fl, G'), ⟨ds.length, rfl, Nat.zero_le _, G1, Hs1, q1, Same.refl _, e⟩, ?_⟩
  rintro i m σ2 H2 ⟨rfl, hi, G2, Hs2, q2, s2, e2⟩
  by_cases hlt : i < ds.length
  · refine .inr ⟨Y.go i H2 (s2.trans q2.sub) hlt, fun σ' H' => i + 1 ≤ ds.length ∧ ∃ G3 Hs3, Rel K Fz ba G3 σ' H' Hs3 ∧ Same Hs1 Hs3 ∧ xforL tg b (ds.drop (i + 1)) G3 = some (fl, G'), fun σ' H' ⟨z, z2⟩ => ⟨ds.length - (i + 1), by omega, rfl, z, z2⟩, fun x H' y => ?_⟩
    obtain ⟨d, Hs3, d1, ex, dr⟩ := Y.yld i x H2 H' Hs2 hlt s2 q2.sub y
    have q3 := q2.ext ex
    have ed : ds.drop i = d :: ds.drop (i + 1) := by
      rw [List.drop_eq_getElem_cons hlt]
      rw [List.getElem?_eq_getElem hlt] at d1
      cases d1
      rfl
    rw [ed] at e2
    have e2' : (match tg d G2 with | none => none | some G3 => (match b G3 with | some (.nx, G4) => xforL tg b (ds.drop (i + 1)) G4 | some (.ct, G4) => xforL tg b (ds.drop (i + 1)) G4 | some (.bk, G4) => some (.nx, G4) | some (.rt r, G4) => some (.rt r, G4) | none => none)) = some (fl, G') := e2
    cases hG : tg d G2 with
    | none => rw [hG] at e2'; cases e2'
    | some G3 =>
      rw [hG] at e2'
      refine hg.run Fz ba G2 σ2 H' Hs3 x d G3 q3 dr hG _ fun σ3 q4 _ _ => ?_
      cases hbG : b G3 with
      | none => simp only [hbG] at e2'; cases e2'
      | some y =>
        obtain ⟨f1, G4⟩ := y
        simp only [hbG] at e2'
        refine hb Fz ba G3 σ3 H' Hs3 f1 G4 q4 hbG _ ?_
        cases f1 with
        | nx => exact fun σ' H5 Hs' a1 a2 => ⟨hlt, G4, Hs', a1, (s2.trans ex.b).trans a2, e2'⟩
        | ct => exact fun σ' H5 Hs' a1 a2 => ⟨hlt, G4, Hs', a1, (s2.trans ex.b).trans a2, e2'⟩
        | bk => cases e2'; exact fun σ' H5 Hs' a1 a2 => p σ' H5 Hs' a1 (((s1.trans s2).trans ex.b).trans a2)
        | rt r => cases e2'; exact fun v σ' H5 Hs' a1 a2 a3 => p v σ' H5 Hs' a1 (((s1.trans s2).trans ex.b).trans a2) a3
  · have hend : ds.length ≤ i := by omega
    rw [List.drop_eq_nil_of_le hend] at e2
    cases e2
    exact .inl ⟨Y.stop i H2 (s2.trans q2.sub) hend, p σ2 H2 Hs2 q2 (s1.trans s2)⟩
end
end Bk
namespace Bk
open PySem L2
section
variable {K : PySem.W.Frag}
theorem Yl.same {J : It} {ds : List D} {Hs Hs' : Hp} (y : Yl K J ds Hs) (s : Same Hs Hs') : Yl K J ds Hs' :=
  ⟨fun i H h => y.go i H (s.trans h), fun i H h => y.stop i H (s.trans h), fun i x H H' Hs1 hi h => y.yld i x H H' Hs1 hi (s.trans h)⟩
theorem yl_list {Hs : Hp} {a : Addr} {xs : List V} {ds : List D} (h : SqL K Hs a xs) (d : DRs K Hs xs ds) : Yl K (Itl K a) ds Hs where
  go := fun i H s hi => ⟨xs, xs[i]'(by rw [d.len]; exact hi), same_lst s h, by simp⟩
  stop := fun i H s hi => ⟨xs, same_lst s h, by rw [d.len]; exact hi⟩
  yld := fun i x H H' Hs1 _ s s1 y => by
    obtain ⟨rfl, y⟩ := y
    obtain ⟨e, e1, e2⟩ := d.ta (y xs (same_lst (s.trans s1) h))
    exact ⟨e, Hs1, e1, Ext.refl s1, e2.mono s⟩
theorem yl_tup {Hs : Hp} {a : Addr} {xs : List V} {ds : List D} (h : SqT K Hs a xs) (d : DRs K Hs xs ds) : Yl K (Itt K a) ds Hs where
  go := fun i H s hi => ⟨xs, xs[i]'(by rw [d.len]; exact hi), same_tup s h, by simp⟩
  stop := fun i H s hi => ⟨xs, same_tup s h, by rw [d.len]; exact hi⟩
  yld := fun i x H H' Hs1 _ s s1 y => by
    obtain ⟨rfl, y⟩ := y
    obtain ⟨e, e1, e2⟩ := d.ta (y xs (same_tup (s.trans s1) h))
    exact ⟨e, Hs1, e1, Ext.refl s1, e2.mono s⟩
theorem rng_len (lo : Int) (n : Nat) : (rng lo n).length = n := by simp [rng]
theorem yl_rng {Hs : Hp} {lo : Int} {n : Nat} : Yl K (Itr lo n) (rng lo n) Hs where
  go := fun i H s hi => by rw [rng_len] at hi; exact hi
  stop := fun i H s hi => by rw [rng_len] at hi; exact hi
  yld := fun i x H H' Hs1 hi s s1 y => by
    obtain ⟨rfl, rfl⟩ := y
    rw [rng_len] at hi
    exact ⟨.int (lo + (i : Int)), Hs1, by simp [rng, hi], Ext.refl s1, .int _⟩
theorem okR_inv {i : Int} (h : okR i = true) : -(2 ^ 62) ≤ i ∧ i < 2 ^ 62 := by
  unfold okR at h
  rw [Bool.and_eq_true] at h
  exact ⟨of_decide_eq_true h.1, of_decide_eq_true h.2⟩
theorem ik_range1 {ta : TA} {a : M (List D)} (ha : AOk K ta a) : IOk K (iRng1 ta) (xrange1 a) := fun Fz ba G σ H Hs ds G' q e Q k => by
  obtain ⟨xs, G1, e1, e⟩ := bd_inv e
  refine ha Fz ba G σ H Hs xs _ q e1 _ fun vs H1 Hs1 q1 s1 d => ?_
  split at e
  case h_2 => cases e
  split at e
  case isFalse => cases e
  rename_i hr
  cases e
  cases d with
  | cons d1 d2 =>
    cases d2
    cases d1
    exact ⟨_, rfl, (okR_inv hr).1, (okR_inv hr).2, k _ H1 Hs1 q1 s1 yl_rng⟩
theorem asL_ok {H : Hp} {v : V} {d : D} {ds : List D} (h : DR K H v d) (e : asL d = some ds) : ∃ a xs, v = .ref a ∧ SqL K H a xs ∧ DRs K H xs ds := by
  cases h with
  | lst hl hd => cases e; exact ⟨_, _, rfl, SqL.of hl, hd⟩
  | frz hl hd => cases e; exact ⟨_, _, rfl, hl, hd⟩
  | _ => cases e
theorem zip_get {α β : Type} : ∀ {xs : List α} {ys : List β} {i : Nat} {x : α} {y : β}, xs[i]? = some x → ys[i]? = some y → (xs.zip ys)[i]? = some (x, y)
  | [], _, _, _, _, h, _ => by simp at h
  | _ :: _, [], _, _, _, _, h => by simp at h
  | a :: xs, b :: ys, 0, _, _, h1, h2 => by simp at h1 h2; subst h1; subst h2; rfl
  | a :: xs, b :: ys, i + 1, _, _, h1, h2 => by
    simp only [List.zip_cons_cons, List.getElem?_cons_succ] at h1 h2 ⊢
    exact zip_get h1 h2
theorem enum_len : ∀ (k : Nat) (ds : List D), (enumD k ds).length = ds.length
  | _, [] => rfl
  | k, d :: ds => congrArg Nat.succ (enum_len (k + 1) ds)
theorem enum_get : ∀ {k : Nat} {ds : List D} {i : Nat} {d : D}, ds[i]? = some d → (enumD k ds)[i]? = some (.tup [.int ((k + i : Nat) : Int), d])
  | _, [], _, _, h => by simp at h
  | k, e :: ds, 0, _, h => by simp at h; subst h; rfl
  | k, e :: ds, i + 1, _, h => by
    simp only [List.getElem?_cons_succ] at h
    have z := enum_get (k := k + 1) h
    show (enumD (k + 1) ds)[i]? = _
    rw [z, show k + 1 + i = k + (i + 1) by omega]
theorem yl_enum {Hs : Hp} {a : Addr} {xs : List V} {ds : List D} (ha : SqL K Hs a xs) (da : DRs K Hs xs ds) : Yl K (Ite K a) (enumD 0 ds) Hs where
  go := fun i H s hi => by
    rw [enum_len] at hi
    exact ⟨xs, xs[i]'(by rw [da.len]; omega), same_lst s ha, by simp⟩
  stop := fun i H s hi => by
    rw [enum_len] at hi
    exact ⟨xs, same_lst s ha, by rw [da.len]; omega⟩
  yld := fun i x H H' Hs1 _ s s1 y => by
    obtain ⟨T, x1, rfl, hT, rfl, h1⟩ := y
    obtain ⟨d1, e1, r1⟩ := da.ta (h1 xs (same_lst (s.trans s1) ha))
    have ex : Ext H Hs1 (upd H T (.tup [.int (i : Nat), x1])) (upd Hs1 T (.tup [.int (i : Nat), x1])) := Ext.new s1 hT
    refine ⟨.tup [.int (i : Nat), d1], _, ?_, ex, .tup (SqT.of upd_same) (.cons (.int _) (.cons (r1.mono (s.trans ex.b)) .nil))⟩
    rw [enum_get e1, Nat.zero_add]
theorem Rel.wiped {Fz : Hp} {ba : Nat → Addr} {G : Gam} {σ : L2.St} {H Hs : Hp} (q : Rel K Fz ba G σ H Hs) : ∀ vs : List Nat, Rel K Fz ba (wipeG G vs) (wipe σ vs) H Hs
  | [] => q
  | v :: vs => (Rel.wiped q vs).forget v
theorem wipe_get {σ : L2.St} {i : Nat} : ∀ {vs : List Nat}, i ∉ vs → (wipe σ vs)[i]? = σ[i]?
  | [], _ => rfl
  | v :: vs, h => by
    have h1 : v ≠ i := fun z => h (by rw [z]; exact List.mem_cons_self)
    show ((wipe σ vs).set v none)[i]? = _
    rw [List.getElem?_set_ne h1]
    exact wipe_get fun z => h (List.mem_cons_of_mem _ z)
theorem wipe_in {σ : L2.St} {i : Nat} (hl : i < σ.length) : ∀ {vs : List Nat}, i ∈ vs → (wipe σ vs)[i]? = some none
  | v :: vs, h => by
    show ((wipe σ vs).set v none)[i]? = _
    by_cases z : v = i
    · subst z
      rw [List.getElem?_set_self (by rw [wipe_length]; exact hl)]
    · rw [List.getElem?_set_ne z]
      rcases List.mem_cons.mp h with z2 | h2
      · exact absurd z2.symm z
      · exact wipe_in hl h2
/-- slots outside of vs alike: wiped they are the same -/
theorem wipe_eq {σ τ : L2.St} {vs : List Nat} (hl : τ.length = σ.length) (h : ∀ i : Nat, i ∉ vs → τ[i]? = σ[i]?) : wipe τ vs = wipe σ vs := by
  refine List.ext_getElem? fun i => ?_
  by_cases hi : i ∈ vs
  · by_cases hlt : i < σ.length
    · rw [wipe_in hlt hi, wipe_in (by rw [hl]; exact hlt) hi]
    · rw [List.getElem?_eq_none (by rw [wipe_length, hl]; omega), List.getElem?_eq_none (by rw [wipe_length]; omega)]
  · rw [wipe_get hi, wipe_get hi]
    exact h i hi
theorem unw_len (G1 G2 : Gam) : ∀ vs : List Nat, (unw G1 G2 vs).length = G2.length
  | [] => rfl
  | v :: vs => by
    show ((unw G1 G2 vs).set v _).length = _
    rw [List.length_set]
    exact unw_len G1 G2 vs
theorem unw_out {G1 G2 : Gam} {i : Nat} : ∀ {vs : List Nat}, i ∉ vs → (unw G1 G2 vs)[i]? = G2[i]?
  | [], _ => rfl
  | v :: vs, h => by
    have h1 : v ≠ i := fun z => h (by rw [z]; exact List.mem_cons_self)
    show ((unw G1 G2 vs).set v _)[i]? = _
    rw [List.getElem?_set_ne h1]
    exact unw_out fun z => h (List.mem_cons_of_mem _ z)
theorem unw_in {G1 G2 : Gam} {i : Nat} (hl : G2.length = G1.length) : ∀ {vs : List Nat}, i ∈ vs → (unw G1 G2 vs)[i]? = G1[i]?
  | v :: vs, h => by
    show ((unw G1 G2 vs).set v (G1.getD v .un))[i]? = _
    by_cases z : v = i
    · subst z
      by_cases hlt : v < G1.length
      · rw [List.getElem?_set_self (by rw [unw_len, hl]; exact hlt), List.getElem?_eq_getElem hlt, List.getD_eq_getElem?_getD, List.getElem?_eq_getElem hlt]
        rfl
      · rw [List.getElem?_eq_none (by rw [List.length_set, unw_len, hl]; omega), List.getElem?_eq_none (by omega)]
    · rw [List.getElem?_set_ne z]
      rcases List.mem_cons.mp h with z2 | h2
      · exact absurd z2.symm z
      · exact unw_in hl h2
theorem noMu_ok {G : Gam} {vs : List Nat} (h : noMu G vs = true) {i : Nat} {e : Ent} (hi : i ∈ vs) (g : G[i]? = some e) : e.mu = none := by
  unfold noMu at h
  rw [List.all_eq_true] at h
  have z := h i hi
  rw [g] at z
  simpa using z
/-- behind a block: its own slots as they were -/
theorem Rel.unwipe {Fz : Hp} {ba : Nat → Addr} {G1 G2 : Gam} {σ : L2.St} {H1 Hs1 H2 Hs2 : Hp} {vs : List Nat} (q1 : Rel K Fz ba G1 σ H1 Hs1) (q2 : Rel K Fz ba G2 (wipe σ vs) H2 Hs2) (s : Same Hs1 Hs2) (nm : noMu G1 vs = true) : Rel K Fz ba (unw G1 G2 vs) σ H2 Hs2 := by
  have hl : G2.length = G1.length := by rw [← q1.len, ← q2.len, wipe_length]
  have mo : ∀ {i : Nat} {e : Ent}, (unw G1 G2 vs)[i]? = some e → e.mu ≠ none → i ∉ vs ∧ G2[i]? = some e := fun {i e} h m => by
    by_cases hi : i ∈ vs
    · rw [unw_in hl hi] at h
      exact absurd (noMu_ok nm hi h) m
    · rw [unw_out hi] at h
      exact ⟨hi, h⟩
  refine ⟨q2.sub, q2.fz, by rw [unw_len, hl]; exact q1.len, fun i d h => ?_, fun i e ds h h0 => ?_, fun i j e e' l h1 h2 m1 m2 t1 t2 => ?_, fun i ds h => ?_⟩
  · by_cases hi : i ∈ vs
    · rw [unw_in hl hi] at h
      obtain ⟨v, a1, a2⟩ := q1.im i d h
      exact ⟨v, a1, a2.mono s⟩
    · rw [unw_out hi] at h
      obtain ⟨v, a1, a2⟩ := q2.im i d h
      exact ⟨v, by rw [← wipe_get hi]; exact a1, a2⟩
  · obtain ⟨hi, h⟩ := mo h (by rw [h0]; simp)
    obtain ⟨l, ws, a1, a2⟩ := q2.mu i e ds h h0
    exact ⟨l, ws, by rw [← wipe_get hi]; exact a1, a2⟩
  · obtain ⟨hi, h1⟩ := mo h1 m1
    obtain ⟨hj, h2⟩ := mo h2 m2
    exact q2.dj i j e e' l h1 h2 m1 m2 (by rw [wipe_get hi]; exact t1) (by rw [wipe_get hj]; exact t2)
  · obtain ⟨hi, h⟩ := mo h (by simp [Ent.mu])
    have z := q2.bx i ds h
    rw [wipe_get hi] at z
    exact z
/-- a hidden object more -/
theorem Rel.hide {Fz : Hp} {ba : Nat → Addr} {G : Gam} {σ : L2.St} {H Hs : Hp} (q : Rel K Fz ba G σ H Hs) {p : Addr} {o : HO} (h : H p = none) : Rel K (upd Fz p o) ba G σ (upd H p o) Hs := by
  refine ⟨q.sub.trans (same_new h), fun a u e => ?_, q.len, q.im, fun i e ds g g0 => ?_, q.dj, q.bx⟩
  · by_cases z : a = p
    · subst z
      rw [upd_same] at e ⊢
      exact ⟨e, none_sub q.sub h⟩
    · rw [upd_ne z] at e ⊢
      exact q.fz a u e
  · obtain ⟨l, vs, a1, a2, a3, a4, a5⟩ := q.mu i e ds g g0
    have ne : l ≠ p := ne_of_none a2 h
    exact ⟨l, vs, a1, by rw [upd_ne ne]; exact a2, a3, by rw [upd_ne ne]; exact a4, a5⟩
/-- the hidden object is another -/
theorem Rel.rehide {Fz : Hp} {ba : Nat → Addr} {G : Gam} {σ : L2.St} {H Hs : Hp} {p : Addr} {o o' : HO} (q : Rel K (upd Fz p o) ba G σ H Hs) : Rel K (upd Fz p o') ba G σ (upd H p o') Hs := by
  obtain ⟨hp, hsp⟩ := q.fz p o upd_same
  refine ⟨fun a u e => ?_, fun a u e => ?_, q.len, q.im, fun i e ds g g0 => ?_, q.dj, q.bx⟩
  · rw [upd_ne (ne_of_none e hsp)]
    exact q.sub a u e
  · by_cases z : a = p
    · subst z
      rw [upd_same] at e ⊢
      exact ⟨e, hsp⟩
    · rw [upd_ne z] at e ⊢
      exact q.fz a u (by rw [upd_ne z]; exact e)
  · obtain ⟨l, vs, a1, a2, a3, a4, a5⟩ := q.mu i e ds g g0
    have ne : l ≠ p := by
      intro z
      subst z
      rw [upd_same] at a4
      cases a4
    rw [upd_ne ne] at a4
    exact ⟨l, vs, a1, by rw [upd_ne ne]; exact a2, a3, by rw [upd_ne ne]; exact a4, a5⟩
/-- no longer hidden, not owned either -/
theorem Rel.unhide {Fz : Hp} {ba : Nat → Addr} {G : Gam} {σ : L2.St} {H Hs : Hp} {p : Addr} {o : HO} (q : Rel K (upd Fz p o) ba G σ H Hs) (hf : Fz p = none) : Rel K Fz ba G σ H Hs := by
  refine ⟨q.sub, fun a u e => ?_, q.len, q.im, fun i e ds g g0 => ?_, q.dj, q.bx⟩
  · exact q.fz a u (by rw [upd_ne (ne_of_none e hf)]; exact e)
  · obtain ⟨l, vs, a1, a2, a3, a4, a5⟩ := q.mu i e ds g g0
    refine ⟨l, vs, a1, a2, a3, ?_, a5⟩
    cases z : Fz l with
    | none => rfl
    | some u =>
      have ne : l ≠ p := ne_of_none z hf
      rw [upd_ne ne, z] at a4
      cases a4
theorem gk_lc {w : TI} {g : TG} {t : TT} {te : TE} {it : M (List D)} {tg : D → Gam → Option Gam} {js vs : List Nat} {c : M Bool} {a : M R} (hi : IOk K w it) (hg : GtOk K g tg js) (hc : TOk K t c) (ha : GOk K te a) (hj : ∀ j ∈ js, j ∈ vs) :
    GOk K (tLc w g t te vs) (xlc it tg c a vs) := fun Fz ba G σ H Hs res G' q e Q k => by
  obtain ⟨ds, G1, e1, e⟩ := bd_inv e
  split at e
  case isFalse => cases e
  rename_i nm
  obtain ⟨out, G2, e2, e⟩ := bd_inv e
  split at e
  case isFalse => cases e
  rename_i hf
  cases e
  refine hi Fz ba G σ H Hs ds _ q e1 _ fun J H1 Hs1 q1 s1 Y p hp => ?_
  have hfp : Fz p = none := by
    cases z : Fz p with
    | none => rfl
    | some o =>
      obtain ⟨z1, _⟩ := q1.fz p o z
      rw [hp] at z1
      cases z1
  have q1w := (q1.wiped vs).hide (o := .lst []) hp
  refine ⟨fun i m H2 => m = ds.length - i ∧ i ≤ ds.length ∧ ∃ G3 Hs3 acc ad more, Rel K (upd Fz p (.lst acc)) ba G3 (wipe σ vs) H2 Hs3 ∧ Same Hs1 Hs3 ∧ DRs K Hs3 acc ad ∧ xlcL tg c a vs (ds.drop i) G3 = some (more, G2) ∧ ad ++ more = out,
    ⟨ds.length, rfl, Nat.zero_le _, wipeG G1 vs, Hs1, [], [], out, q1w, Same.refl _, .nil, e2, rfl⟩, ?_⟩
  rintro i m H2 ⟨rfl, hi2, G3, Hs3, acc, ad, more, q3, s3, da, e3, eo⟩
  by_cases hlt : i < ds.length
  · refine .inr ⟨Y.go i H2 (s3.trans q3.sub) hlt, fun H' => i + 1 ≤ ds.length ∧ ∃ G4 Hs4 acc ad more, Rel K (upd Fz p (.lst acc)) ba G4 (wipe σ vs) H' Hs4 ∧ Same Hs1 Hs4 ∧ DRs K Hs4 acc ad ∧ xlcL tg c a vs (ds.drop (i + 1)) G4 = some (more, G2) ∧ ad ++ more = out,
      fun H' ⟨z, z2⟩ => ⟨ds.length - (i + 1), by omega, rfl, z, z2⟩, fun x H' y => ?_⟩
    obtain ⟨d, Hs4, d1, ex, dr⟩ := Y.yld i x H2 H' Hs3 hlt s3 q3.sub y
    have q4 := q3.ext ex
    have ed : ds.drop i = d :: ds.drop (i + 1) := by
      rw [List.drop_eq_getElem_cons hlt]
      rw [List.getElem?_eq_getElem hlt] at d1
      cases d1
      rfl
    rw [ed] at e3
    unfold xlcL at e3
    cases hG : tg d G3 with
    | none => rw [hG] at e3; cases e3
    | some G4 =>
      rw [hG] at e3
      refine hg.run _ ba G3 _ H' Hs4 x d G4 q4 dr hG _ fun σ5 q5 l5 k5 => ?_
      have hlen : σ5.length = σ.length := by rw [l5, wipe_length]
      have hw : wipe σ5 vs = wipe σ vs := by
        have z := wipe_eq (σ := wipe σ vs) (τ := σ5) (vs := vs) (by rw [wipe_length]; exact hlen) fun j hj' => k5 j fun z => hj' (hj j z)
        rw [z]
        exact wipe_eq (wipe_length σ vs) fun j hj' => wipe_get hj'
      refine ⟨hw, ?_⟩
      obtain ⟨b, G5, e5, e6⟩ := bd_inv e3
      refine hc _ ba G4 σ5 H' Hs4 b G5 q5 e5 _ fun H5 Hs5 q6 s6 => ?_
      cases b with
      | true =>
        obtain ⟨r, G6, e7, e8⟩ := bd_inv (show bd (a G5) _ = _ from e6)
        obtain ⟨out2, G7, e9, e10⟩ := bd_inv e8
        cases e10
        rw [if_pos rfl]
        refine ha.im q6 e7 fun v H6 Hs6 q7 s7 d7 => ?_
        obtain ⟨f1, f2⟩ := q7.fz p _ upd_same
        have q8 := (q7.rehide (o' := .lst (acc ++ [v]))).wiped vs
        rw [hw] at q8
        refine ⟨acc, f1, ?_, hlt, _, Hs6, _, ad ++ [r.d], out2, q8, ((s3.trans ex.b).trans s6).trans s7, (da.mono ((ex.b.trans s6).trans s7)).app (.cons d7 .nil), e9, ?_⟩
        · have z1 := da.len
          have z2 : ad.length ≤ out.length := by rw [← eo, List.length_append]; omega
          exact Nat.lt_of_le_of_lt (by omega) (few_lt hf)
        · rw [List.append_assoc]
          exact eo
      | false =>
        rw [if_neg Bool.false_ne_true] at e6 ⊢
        have q8 := q6.wiped vs
        rw [hw] at q8
        exact ⟨hlt, _, Hs5, acc, ad, more, q8, (s3.trans ex.b).trans s6, da.mono (ex.b.trans s6), e6, eo⟩
  · have hend : ds.length ≤ i := by omega
    rw [List.drop_eq_nil_of_le hend] at e3
    cases e3
    rw [List.append_nil] at eo
    subst eo
    obtain ⟨f1, f2⟩ := q3.fz p _ upd_same
    refine .inl ⟨Y.stop i H2 (s3.trans q3.sub) hend, k _ H2 Hs3 (q1.unwipe (q3.unhide hfp) s3 nm) (s1.trans s3) ⟨p, _, rfl, f1, f2, hfp, ⟨acc, rfl, da⟩, fun j e' g m z => ?_⟩⟩
    have q9 := q1.unwipe (q3.unhide hfp) s3 nm
    by_cases hjv : j ∈ vs
    · have z1 := q1.len
      have z2 := q3.len
      rw [wipe_length, z1] at z2
      rw [unw_in (G1 := G1) z2.symm hjv] at g
      exact m (noMu_ok nm hjv g)
    · rw [unw_out hjv] at g
      obtain ⟨ds', hd'⟩ : ∃ ds', e'.mu = some ds' := by
        cases y : e'.mu with
        | none => exact absurd y m
        | some ds' => exact ⟨ds', rfl⟩
      obtain ⟨l, ws, a1, a2, a3, a4, a5⟩ := q3.mu j e' ds' g hd'
      rw [wipe_get hjv, z] at a1
      cases a1
      rw [upd_same] at a4
      cases a4
end
end Bk
namespace Bk
open PySem L2
def opAdd : D → D → Option R
  | .int i, .int j => some (.im (.int (i + j)))
  | .str x, .str y => if few (x.length + y.length) then some (.im (.str (x ++ y))) else none
  | .lst xs, .lst ys => if few (xs.length + ys.length) then some (.ol (xs ++ ys)) else none
  | _, _ => none
def opSub : D → D → Option R
  | .int i, .int j => some (.im (.int (i - j)))
  | _, _ => none
def okMul (i j : Int) : Bool := decide (i.natAbs.log2 + j.natAbs.log2 < 1000000)
theorem okMul_ok {i j : Int} (h : okMul i j = true) : CMulW i j := by
  unfold okMul at h
  exact (of_decide_eq_true h : i.natAbs.log2 + j.natAbs.log2 < 1000000)
def opMul : D → D → Option R
  | .int i, .int j => if okMul i j then some (.im (.int (i * j))) else none
  | .lst xs, .int k => if okR k && few (xs.length * k.toNat) then some (.ol (List.replicate k.toNat xs).flatten) else none
  | _, _ => none
def okDiv (j : Int) : Bool := decide (j ≠ 0) && decide (j.natAbs.log2 < 9000)
def opFdiv : D → D → Option R
  | .int i, .int j => if okDiv j then some (.im (.int (i.fdiv j))) else none
  | _, _ => none
def opMod : D → D → Option R
  | .int i, .int j => if decide (j ≠ 0) then some (.im (.int (i.fmod j))) else none
  | _, _ => none
def okPow (i j : Int) : Bool := decide (0 ≤ j) && decide (j ≤ 1000000) && decide (i.natAbs < 2 ^ 64)
def opPow : D → D → Option R
  | .int i, .int j => if okPow i j then some (.im (.int (i ^ j.toNat))) else none
  | _, _ => none
def cmp (p : Int → Int → Bool) : D → D → Option R
  | .int i, .int j => some (.im (.bl (p i j)))
  | _, _ => none
def opLt : D → D → Option R := cmp fun i j => decide (i < j)
def opGt : D → D → Option R := cmp fun i j => decide (j < i)
def opGe : D → D → Option R := cmp fun i j => decide (j ≤ i)
mutual
def toPy : D → Option PyData
  | .non => some .none
  | .bl b => some (.bool b)
  | .int i => some (.int i)
  | .str x => some (.str x)
  | .lst xs => (toPys xs).map .list
  | .frz xs => (toPys xs).map .list
  | .tup xs => (toPys xs).map .tuple
  | .obj _ _ => none
  | .ty _ => none
  | .cl _ => none
  | .dic _ _ => none
def toPys : List D → Option (List PyData)
  | [] => some []
  | x :: xs => match toPy x, toPys xs with
    | some p, some ps => some (p :: ps)
    | _, _ => none
end
def eqD (a b : D) : Option Bool := match a, b with
  | .int i, .int j => some (decide (i = j))
  | .str x, .str y => some (decide (x = y))
  | a, b => match toPy a, toPy b with
    | some p, some q => if SeqAt.shaped p && SeqAt.shaped q then some (PyData.eqv p q) else none
    | _, _ => none
def opEq (a b : D) : Option R := match eqD a b with
  | some k => some (.im (.bl k))
  | none => none
def opNe (a b : D) : Option R := match eqD a b with
  | some k => some (.im (.bl (!k)))
  | none => none
def isN : D → Bool
  | .non => true
  | _ => false
def isD : D → D → Option Bool
  | a, .non => some (isN a)
  | .bl a, .bl b => some (decide (a = b))
  | _, _ => none
def opIs (a b : D) : Option R := match isD a b with
  | some k => some (.im (.bl k))
  | none => none
def opIsNot (a b : D) : Option R := match isD a b with
  | some k => some (.im (.bl (!k)))
  | none => none
def opIx : D → D → Option R
  | .lst xs, .int k => (atI xs k).map .im
  | .frz xs, .int k => (atI xs k).map .im
  | .tup xs, .int k => (atI xs k).map .im
  | .str x, .int k => if few x.length then (atI x.cps.toList k).map fun c => .im (.str ⟨#[c]⟩) else none
  | _, _ => none
def unNeg : D → Option R
  | .int i => some (.im (.int (-i)))
  | _ => none
def rAddA : R2 := fun x y H Q => rI0 (fun i j => .int (i + j)) x y H Q ∨ (∃ i j, x = .str i ∧ y = .str j ∧ i.length + j.length ≤ sizeLine ∧ Q (.str (i ++ j)) H) ∨ rCat x y H Q
theorem op_addA {X : Cx} : OpR X (binaryOp .Add) rAddA := op_add.or (op_add_str.or op_cat)
def rMulA : R2 := fun x y H Q => rI CMulW (fun i j => .int (i * j)) x y H Q ∨ rRep x y H Q
theorem op_mulA {X : Cx} : OpR X (binaryOp .Mult) rMulA := op_mulW.or op_rep
def rFdivA : R2 := rI (fun _ j => j ≠ 0 ∧ j.natAbs.log2 < 9000) fun i j => .int (i.fdiv j)
theorem op_fdivA {X : Cx} : OpR X (binaryOp .FloorDiv) rFdivA := opI fun _ _ _ _ _ _ _ hc q => PyProof.Rows.floordiv_int hc.1 q (.inl (PyProof.noPylong_of_log2 hc.2))
def rModA : R2 := rI (fun _ j => j ≠ 0) fun i j => .int (i.fmod j)
theorem op_modA {X : Cx} : OpR X (binaryOp .Mod) rModA := op_modN
def rSubA : R2 := rI0 fun i j => .int (i - j)
theorem op_subA {X : Cx} : OpR X (binaryOp .Sub) rSubA := op_sub
def rPowA : R2 := rI CPow fun i j => .int (i ^ j.toNat)
theorem op_powA {X : Cx} : OpR X (binaryOp .Pow) rPowA := op_pow
def rIsA : R2 := fun x y H Q => (y = .non ∧ Q (.bl (decide (x = .non))) H) ∨ rIsB x y H Q
theorem op_isA {X : Cx} : OpR X (compareOp .Is) rIsA := op_isN.or op_isBl
def rIsNotA : R2 := fun x y H Q => (y = .non ∧ Q (.bl (!decide (x = .non))) H) ∨ rNotB x y H Q
theorem op_isNotA {X : Cx} : OpR X (compareOp .IsNot) rIsNotA := op_notN.or op_notBl
section
variable {K : PySem.W.Frag}
theorem od_add : OpD K rAddA opAdd := fun H Hs x y dx dy res s hx hy e Q k => by
  unfold opAdd at e
  split at e
  · cases e
    cases hx; cases hy
    exact .inl ⟨_, _, rfl, rfl, k _ H Hs (Ext.refl s) (.int _)⟩
  · split at e
    case isFalse => cases e
    rename_i hf
    cases e
    cases hx; cases hy
    exact .inr (.inl ⟨_, _, rfl, rfl, few_ok hf, k _ H Hs (Ext.refl s) (.str _)⟩)
  · split at e
    case isFalse => cases e
    rename_i hf
    cases e
    cases hx with
    | lst h1 d1 =>
      cases hy with
      | lst h2 d2 =>
        exact .inr (.inr ⟨_, _, _, _, rfl, rfl, s _ _ h1, s _ _ h2, by rw [d1.len, d2.len]; exact few_ok hf, fun p hp =>
          k _ _ Hs (Ext.hid s hp) ⟨p, _, rfl, hp, upd_same, none_sub s hp, _, rfl, d1.app d2⟩⟩)
  · cases e
theorem od_sub : OpD K rSubA opSub := fun H Hs x y dx dy res s hx hy e Q k => by
  unfold opSub at e
  split at e
  case h_2 => cases e
  cases e
  cases hx; cases hy
  exact ⟨_, _, rfl, rfl, k _ H Hs (Ext.refl s) (.int _)⟩
theorem od_mul : OpD K rMulA opMul := fun H Hs x y dx dy res s hx hy e Q k => by
  unfold opMul at e
  split at e
  · split at e
    case isFalse => cases e
    rename_i hf
    cases e
    cases hx; cases hy
    exact .inl ⟨_, _, rfl, rfl, okMul_ok hf, k _ H Hs (Ext.refl s) (.int _)⟩
  · split at e
    case isFalse => cases e
    rename_i hf
    rw [Bool.and_eq_true] at hf
    cases e
    cases hx with
    | lst h1 d1 =>
      cases hy
      obtain ⟨z1, z2⟩ : -(2 ^ 62) ≤ _ ∧ _ < 2 ^ 62 := okR_inv hf.1
      exact .inr ⟨_, _, _, rfl, rfl, s _ _ h1, by omega, by omega, by rw [d1.len]; exact few_ok hf.2, fun p hp =>
        k _ _ Hs (Ext.hid s hp) ⟨p, _, rfl, hp, upd_same, none_sub s hp, _, rfl, d1.rep _⟩⟩
  · cases e
theorem od_fdiv : OpD K rFdivA opFdiv := fun H Hs x y dx dy res s hx hy e Q k => by
  unfold opFdiv at e
  split at e
  case h_2 => cases e
  split at e
  case isFalse => cases e
  rename_i hf
  unfold okDiv at hf
  rw [Bool.and_eq_true] at hf
  cases e
  cases hx; cases hy
  exact ⟨_, _, rfl, rfl, ⟨of_decide_eq_true hf.1, of_decide_eq_true hf.2⟩, k _ H Hs (Ext.refl s) (.int _)⟩
theorem od_mod : OpD K rModA opMod := fun H Hs x y dx dy res s hx hy e Q k => by
  unfold opMod at e
  split at e
  case h_2 => cases e
  split at e
  case isFalse => cases e
  rename_i hf
  cases e
  cases hx; cases hy
  exact ⟨_, _, rfl, rfl, of_decide_eq_true hf, k _ H Hs (Ext.refl s) (.int _)⟩
theorem od_pow : OpD K rPowA opPow := fun H Hs x y dx dy res s hx hy e Q k => by
  unfold opPow at e
  split at e
  case h_2 => cases e
  split at e
  case isFalse => cases e
  rename_i hf
  unfold okPow at hf
  rw [Bool.and_eq_true, Bool.and_eq_true] at hf
  cases e
  cases hx; cases hy
  exact ⟨_, _, rfl, rfl, ⟨of_decide_eq_true hf.1.1, of_decide_eq_true hf.1.2, of_decide_eq_true hf.2⟩, k _ H Hs (Ext.refl s) (.int _)⟩
theorem od_cmp {p : Int → Int → Bool} : OpD K (rI0 fun i j => .bl (p i j)) (cmp p) := fun H Hs x y dx dy res s hx hy e Q k => by
  unfold cmp at e
  split at e
  case h_2 => cases e
  cases e
  cases hx; cases hy
  exact ⟨_, _, rfl, rfl, k _ H Hs (Ext.refl s) (.bl _)⟩
theorem od_lt : OpD K (rI0 fun i j => .bl (decide (i < j))) opLt := od_cmp
theorem od_gt : OpD K (rI0 fun i j => .bl (decide (j < i))) opGt := od_cmp
theorem od_ge : OpD K (rI0 fun i j => .bl (decide (j ≤ i))) opGe := od_cmp
mutual
theorem toPy_ok {H : Hp} : ∀ {d : D} {v : V} {p : PyData}, DR K H v d → toPy d = some p → Dp K H v p
  | .non, _, _, h, e => by cases h; unfold toPy at e; cases e; exact .non
  | .bl b, _, _, h, e => by cases h; unfold toPy at e; cases e; exact .bl b
  | .int i, _, _, h, e => by cases h; unfold toPy at e; cases e; exact .int i
  | .str x, _, _, h, e => by cases h; unfold toPy at e; cases e; exact .str x
  | .lst xs, _, _, h, e => by
    unfold toPy at e
    cases z : toPys xs with
    | none => rw [z] at e; cases e
    | some ps =>
      rw [z] at e
      cases e
      cases h with
      | lst h1 d1 => exact .lst (SqL.of h1) (toPys_ok d1 z)
  | .frz xs, _, _, h, e => by
    unfold toPy at e
    cases z : toPys xs with
    | none => rw [z] at e; cases e
    | some ps =>
      rw [z] at e
      cases e
      cases h with
      | frz h1 d1 => exact .lst h1 (toPys_ok d1 z)
  | .tup xs, _, _, h, e => by
    unfold toPy at e
    cases z : toPys xs with
    | none => rw [z] at e; cases e
    | some ps =>
      rw [z] at e
      cases e
      cases h with
      | tup h1 d1 => exact .tup h1 (toPys_ok d1 z)
  | .obj _ _, _, _, _, e => by unfold toPy at e; cases e
  | .ty _, _, _, _, e => by unfold toPy at e; cases e
  | .cl _, _, _, _, e => by unfold toPy at e; cases e
  | .dic _ _, _, _, _, e => by unfold toPy at e; cases e
theorem toPys_ok {H : Hp} : ∀ {ds : List D} {vs : List V} {ps : List PyData}, DRs K H vs ds → toPys ds = some ps → DpAll K H vs ps
  | [], _, _, h, e => by cases h; unfold toPys at e; cases e; exact .nil
  | d :: ds, _, _, h, e => by
    unfold toPys at e
    split at e
    case h_2 => cases e
    rename_i h1 h2
    cases e
    cases h with
    | cons a b => exact .cons (toPy_ok a h1) (toPys_ok b h2)
end
theorem shaped_int (i : Int) : SeqAt.shaped (.int i) = true := by
  unfold SeqAt.shaped
  simp [PyData.canLay0, PyData.depth]
theorem eqD_ok {H : Hp} {x y : V} {a b : D} {k : Bool} (hx : DR K H x a) (hy : DR K H y b) (e : eqD a b = some k) :
    (∃ p q, Dp K H x p ∧ Dp K H y q ∧ SeqAt.shaped p = true ∧ SeqAt.shaped q = true ∧ PyData.eqv p q = k) ∨ (scal x y = true ∧ decide (x = y) = k) := by
  unfold eqD at e
  split at e
  · cases e
    cases hx; cases hy
    exact .inl ⟨_, _, .int _, .int _, shaped_int _, shaped_int _, by simp only [PyData.eqv]; exact Bool.beq_eq_decide_eq _ _⟩
  · cases e
    cases hx; cases hy
    exact .inr ⟨rfl, by simp⟩
  · split at e
    case h_2 => cases e
    rename_i h1 h2
    split at e
    case isFalse => cases e
    rename_i hf
    rw [Bool.and_eq_true] at hf
    cases e
    exact .inl ⟨_, _, toPy_ok hx h1, toPy_ok hy h2, hf.1, hf.2, rfl⟩
def rEqA (K : PySem.W.Frag) : R2 := fun x y H Q => rEqD K x y H Q ∨ rEq x y H Q
def rNeA (K : PySem.W.Frag) : R2 := fun x y H Q => rNeD K x y H Q ∨ rNe x y H Q
theorem op_eqA {X : Cx} (hu : X.A.units + 64 < cLine) : OpR X (compareOp .Eq) (rEqA X.K) := (op_eqD hu).or op_eq
theorem op_neA {X : Cx} (hu : X.A.units + 64 < cLine) : OpR X (compareOp .NotEq) (rNeA X.K) := (op_neD hu).or op_ne
theorem dp_mono {H H' : Hp} (s : Same H H') {x : V} {d : D} {p : PyData} (h : DR K H x d) (e : toPy d = some p) : Dp K H' x p := toPy_ok (h.mono s) e
theorem od_eq : OpD K (rEqA K) opEq := fun H Hs x y dx dy res s hx hy e Q k => by
  unfold opEq at e
  cases z : eqD dx dy with
  | none => rw [z] at e; cases e
  | some b =>
    rw [z] at e
    cases e
    rcases eqD_ok (hx.mono s) (hy.mono s) z with ⟨p, q, a1, a2, a3, a4, a5⟩ | ⟨a1, a2⟩
    · exact .inl ⟨p, q, a1, a2, a3, a4, by rw [a5]; exact k _ H Hs (Ext.refl s) (.bl _)⟩
    · exact .inr ⟨a1, by rw [a2]; exact k _ H Hs (Ext.refl s) (.bl _)⟩
theorem od_ne : OpD K (rNeA K) opNe := fun H Hs x y dx dy res s hx hy e Q k => by
  unfold opNe at e
  cases z : eqD dx dy with
  | none => rw [z] at e; cases e
  | some b =>
    rw [z] at e
    cases e
    rcases eqD_ok (hx.mono s) (hy.mono s) z with ⟨p, q, a1, a2, a3, a4, a5⟩ | ⟨a1, a2⟩
    · exact .inl ⟨p, q, a1, a2, a3, a4, by rw [a5]; exact k _ H Hs (Ext.refl s) (.bl _)⟩
    · exact .inr ⟨a1, by rw [a2]; exact k _ H Hs (Ext.refl s) (.bl _)⟩
theorem isN_ok {H : Hp} {x : V} {d : D} (h : DR K H x d) : decide (x = .non) = isN d := by
  cases h <;> simp [isN]
theorem od_is : OpD K rIsA opIs := fun H Hs x y dx dy res s hx hy e Q k => by
  unfold opIs at e
  cases z : isD dx dy with
  | none => rw [z] at e; cases e
  | some b =>
    rw [z] at e
    cases e
    unfold isD at z
    split at z
    · cases z
      cases hy
      exact .inl ⟨rfl, by rw [isN_ok hx]; exact k _ H Hs (Ext.refl s) (.bl _)⟩
    · cases z
      cases hx; cases hy
      exact .inr ⟨_, _, rfl, rfl, k _ H Hs (Ext.refl s) (.bl _)⟩
    · cases z
theorem od_isNot : OpD K rIsNotA opIsNot := fun H Hs x y dx dy res s hx hy e Q k => by
  unfold opIsNot at e
  cases z : isD dx dy with
  | none => rw [z] at e; cases e
  | some b =>
    rw [z] at e
    cases e
    unfold isD at z
    split at z
    · cases z
      cases hy
      exact .inl ⟨rfl, by rw [isN_ok hx]; exact k _ H Hs (Ext.refl s) (.bl _)⟩
    · cases z
      cases hx; cases hy
      exact .inr ⟨_, _, rfl, rfl, k _ H Hs (Ext.refl s) (.bl _)⟩
    · cases z
theorem od_ix : OpD K (rIx K) opIx := fun H Hs x y dx dy res s hx hy e Q k => by
  have fin : ∀ {vs : List V} {ds : List D} {i : Int}, DRs K Hs vs ds → (atI ds i).map R.im = some res → ∃ w, atI vs i = some w ∧ Q w H := fun {vs ds i} h z => by
    cases z1 : atI ds i with
    | none => rw [z1] at z; cases z
    | some d =>
      rw [z1] at z
      cases z
      obtain ⟨w, w1, w2⟩ := at_ok h z1
      exact ⟨w, w1, k w H Hs (Ext.refl s) w2⟩
  unfold opIx at e
  split at e
  · cases hx with
    | lst h1 d1 =>
      cases hy
      obtain ⟨w, w1, w2⟩ := fin d1 e
      exact .inl ⟨_, _, _, w, rfl, rfl, SqL.of (s _ _ h1), w1, w2⟩
  · cases hx with
    | frz h1 d1 =>
      cases hy
      obtain ⟨w, w1, w2⟩ := fin d1 e
      exact .inl ⟨_, _, _, w, rfl, rfl, same_lst s h1, w1, w2⟩
  · cases hx with
    | tup h1 d1 =>
      cases hy
      obtain ⟨w, w1, w2⟩ := fin d1 e
      exact .inr (.inl ⟨_, _, _, w, rfl, rfl, same_tup s h1, w1, w2⟩)
  · split at e
    case isFalse => cases e
    rename_i hf
    rename_i z i
    cases hx; cases hy
    cases z1 : atI z.cps.toList i with
    | none => rw [z1] at e; cases e
    | some c =>
      rw [z1] at e
      cases e
      exact .inr (.inr ⟨z, i, c, rfl, rfl, few_ok hf, z1, k _ H Hs (Ext.refl s) (.str _)⟩)
  · cases e
theorem ud_neg : UnD K (rU fun i => .int (-i)) unNeg := fun H Hs x dx res s hx e Q k => by
  unfold unNeg at e
  split at e
  case h_2 => cases e
  cases e
  cases hx
  exact ⟨_, rfl, k _ H Hs (Ext.refl s) (.int _)⟩
/-- slices of lists -/
def cutD (xs : List D) (lo hi : Option Int) : List D := (xs.drop (HT.sIx xs.length 0 lo)).take (HT.sIx xs.length xs.length hi - HT.sIx xs.length 0 lo)
theorem cut_ok {H : Hp} {vs : List V} {ds : List D} (h : DRs K H vs ds) (lo hi : Option Int) : DRs K H (cutV vs lo hi) (cutD ds lo hi) := by
  unfold cutV cutD
  rw [h.len]
  exact (h.drop _).take _
def slL (d : D) (lo hi : Option Int) : Option R := match asL d with
  | some xs => some (.ol (cutD xs lo hi))
  | none => none
theorem sd_list : SlD K (rSlL K) slL := fun H Hs x dx l h res s hx e Q k => by
  unfold slL at e
  cases z : asL dx with
  | none => rw [z] at e; cases e
  | some xs =>
    rw [z] at e
    cases e
    obtain ⟨a, vs, rfl, h1, d1⟩ := asL_ok hx z
    exact ⟨a, vs, rfl, same_lst s h1, fun p hp => k _ _ Hs (Ext.hid s hp) ⟨p, _, rfl, hp, upd_same, none_sub s hp, _, rfl, cut_ok d1 _ _⟩⟩
def cbAbs : List D → Option R
  | [.int i] => some (.im (.int (if i < 0 then -i else i)))
  | _ => none
def rAbs : List V → Hp → VK → Prop := fun xs H Q => ∃ i, xs = [.int i] ∧ Q (.int (if i < 0 then -i else i)) H
theorem cr_abs {X : Cx} : CallR X (.builtin "abs") rAbs := call_abs
theorem cd_abs : CbD K rAbs cbAbs := fun H Hs xs ds res s h e Q k => by
  unfold cbAbs at e
  split at e
  case h_2 => cases e
  cases e
  cases h with
  | cons a b => cases b; cases a; exact ⟨_, rfl, k _ H Hs (Ext.refl s) (.int _)⟩
def cbInt : List D → Option R
  | [.int i] => some (.im (.int i))
  | [.bl b] => some (.im (.int (if b then 1 else 0)))
  | _ => none
def rInt : List V → Hp → VK → Prop := fun xs H Q => (∃ i, xs = [.int i] ∧ Q (.int i) H) ∨ ∃ k, xs = [.bl k] ∧ Q (.int (if k then 1 else 0)) H
theorem cr_int {X : Cx} : CallR X (.type "int") rInt := call_int1
theorem cd_int : CbD K rInt cbInt := fun H Hs xs ds res s h e Q k => by
  unfold cbInt at e
  split at e
  · cases e
    cases h with
    | cons a b => cases b; cases a; exact .inl ⟨_, rfl, k _ H Hs (Ext.refl s) (.int _)⟩
  · cases e
    cases h with
    | cons a b => cases b; cases a; exact .inr ⟨_, rfl, k _ H Hs (Ext.refl s) (.int _)⟩
  · cases e
def lenD : D → Option Nat
  | .lst xs => some xs.length
  | .frz xs => some xs.length
  | .tup xs => some xs.length
  | .str x => if few x.length then some x.length else none
  | _ => none
def cbLen : List D → Option R
  | [d] => (lenD d).map fun n => .im (.int n)
  | _ => none
theorem cr_len {X : Cx} : CallR X (.builtin "len") (rLen X.K) := call_len
theorem lenD_ok {H : Hp} {x : V} {d : D} {n : Nat} (h : DR K H x d) (e : lenD d = some n) : LenV K x H n := by
  cases h with
  | lst h1 d1 => cases e; exact .inl ⟨_, SqL.of h1, d1.len.symm⟩
  | frz h1 d1 => cases e; exact .inl ⟨_, h1, d1.len.symm⟩
  | tup h1 d1 => cases e; exact .inr ⟨_, h1, d1.len.symm⟩
  | str x =>
    by_cases hf : few x.length = true
    · rw [show lenD (.str x) = some x.length from if_pos hf] at e
      cases e
      exact ⟨few_ok hf, rfl⟩
    · rw [show lenD (.str x) = none from if_neg hf] at e
      cases e
  | _ => cases e
theorem cd_len : CbD K (rLen K) cbLen := fun H Hs xs ds res s h e Q k => by
  unfold cbLen at e
  split at e
  case h_2 => cases e
  rename_i d
  cases z : lenD d with
  | none => rw [z] at e; cases e
  | some n =>
    rw [z] at e
    cases e
    cases h with
    | cons a b =>
      cases b
      exact ⟨_, n, rfl, lenD_ok (a.mono s) z, k _ H Hs (Ext.refl s) (.int _)⟩
def cbMax2 : List D → Option R
  | [.int i, .int j] => some (.im (.int (if j > i then j else i)))
  | _ => none
def cbMin2 : List D → Option R
  | [.int i, .int j] => some (.im (.int (if j < i then j else i)))
  | _ => none
def rMax2 : List V → Hp → VK → Prop := fun xs H Q => ∃ i j, xs = [.int i, .int j] ∧ Q (.int (if j > i then j else i)) H
def rMin2 : List V → Hp → VK → Prop := fun xs H Q => ∃ i j, xs = [.int i, .int j] ∧ Q (.int (if j < i then j else i)) H
theorem cr_max2 {X : Cx} (hc : X.calm = true) : CallR X (.builtin "max") rMax2 := call_max2 hc
theorem cr_min2 {X : Cx} (hc : X.calm = true) : CallR X (.builtin "min") rMin2 := call_min2 hc
theorem cd_max2 : CbD K rMax2 cbMax2 := fun H Hs xs ds res s h e Q k => by
  unfold cbMax2 at e
  split at e
  case h_2 => cases e
  cases e
  cases h with
  | cons a b =>
    cases b with
    | cons b c => cases c; cases a; cases b; exact ⟨_, _, rfl, k _ H Hs (Ext.refl s) (.int _)⟩
theorem cd_min2 : CbD K rMin2 cbMin2 := fun H Hs xs ds res s h e Q k => by
  unfold cbMin2 at e
  split at e
  case h_2 => cases e
  cases e
  cases h with
  | cons a b =>
    cases b with
    | cons b c => cases c; cases a; cases b; exact ⟨_, _, rfl, k _ H Hs (Ext.refl s) (.int _)⟩
def bools : List D → Option (List Bool)
  | [] => some []
  | .bl b :: ds => match bools ds with
    | some bs => some (b :: bs)
    | none => none
  | _ :: _ => none
theorem bools_ok {H : Hp} : ∀ {ds : List D} {vs : List V} {bs : List Bool}, DRs K H vs ds → bools ds = some bs → vs = bs.map V.bl
  | [], _, _, h, e => by cases h; cases e; rfl
  | d :: ds, _, _, h, e => by
    cases h with
    | cons a b =>
      unfold bools at e
      split at e
      · rename_i heq; cases heq
      · rename_i heq
        cases heq
        split at e
        case h_2 => cases e
        rename_i z
        cases e
        cases a
        rw [List.map_cons, ← bools_ok b z]
      · cases e
def cbAll : List D → Option R
  | [d] => match asL d with
    | some xs => (bools xs).map fun bs => .im (.bl (bs.all id))
    | none => none
  | _ => none
theorem cd_all : CbD K (rAll K) cbAll := fun H Hs xs ds res s h e Q k => by
  unfold cbAll at e
  split at e
  case h_2 => cases e
  split at e
  case h_2 => cases e
  rename_i ys z
  cases z1 : bools ys with
  | none => rw [z1] at e; cases e
  | some bs =>
    rw [z1] at e
    cases e
    cases h with
    | cons a b =>
      cases b
      obtain ⟨l, vs, rfl, h1, d1⟩ := asL_ok a z
      exact ⟨l, bs, rfl, by rw [← bools_ok d1 z1]; exact same_lst s h1, k _ H Hs (Ext.refl s) (.bl _)⟩
def cbTuple : List D → Option R
  | [.tup xs] => some (.im (.tup xs))
  | [d] => (asL d).map fun xs => .im (.tup xs)
  | _ => none
def rTupleOf (K : PySem.W.Frag) : List V → Hp → VK → Prop := fun xs H Q => ∃ p ys, xs = [.ref p] ∧ ((SqL K H p ys ∧ ∀ l, H l = none → Q (.ref l) (upd H l (.tup ys))) ∨ (SqT K H p ys ∧ Q (.ref p) H))
theorem cr_tuple {X : Cx} : CallR X (.type "tuple") (rTupleOf X.K) := call_tuple_of
theorem cd_tuple : CbD K (rTupleOf K) cbTuple := fun H Hs xs ds res s h e Q k => by
  unfold cbTuple at e
  split at e
  · cases e
    cases h with
    | cons a b =>
      cases b
      cases a with
      | tup h1 d1 => exact ⟨_, _, rfl, .inr ⟨same_tup s h1, k _ H Hs (Ext.refl s) (.tup h1 d1)⟩⟩
  · rename_i d _
    cases z : asL d with
    | none => rw [z] at e; cases e
    | some ys =>
      rw [z] at e
      cases e
      cases h with
      | cons a b =>
        cases b
        obtain ⟨l, vs, rfl, h1, d1⟩ := asL_ok a z
        exact ⟨l, vs, rfl, .inl ⟨same_lst s h1, fun p hp => k _ _ _ (Ext.new s hp) (.tup (SqT.of upd_same) (d1.mono (Ext.new (o := HO.tup vs) s hp).b))⟩⟩
  · cases e
def seqD : D → Option (List D)
  | .lst xs => some xs
  | .frz xs => some xs
  | .tup xs => some xs
  | _ => none
def tyS : D → Option String
  | .non => some "NoneType"
  | .bl _ => some "bool"
  | .int _ => some "int"
  | .str _ => some "str"
  | .lst _ => some "list"
  | .frz _ => some "list"
  | .tup _ => some "tuple"
  | _ => none
def isiT (a b : String) : Option Bool :=
  if ["int", "bool", "str", "list", "tuple"].contains b then some (a == b || (a == "bool" && b == "int")) else none
theorem isiT_ok {a b : String} {k : Bool} (ha : ["NoneType", "bool", "int", "str", "list", "tuple"].contains a = true) (h : isiT a b = some k) : kitB a b = some k := by
  have hb : ["int", "bool", "str", "list", "tuple"].contains b = true := by
    unfold isiT at h
    split at h
    · assumption
    · cases h
  have key : (["NoneType", "bool", "int", "str", "list", "tuple"].all fun a => ["int", "bool", "str", "list", "tuple"].all fun b => decide (kitB a b = isiT a b)) = true := by decide +kernel
  rw [List.all_eq_true] at key
  have k1 := key a (by simpa using ha)
  rw [List.all_eq_true] at k1
  have k2 := of_decide_eq_true (k1 b (by simpa using hb))
  rw [k2]
  exact h
theorem tyS_ok {H : Hp} {x : V} {d : D} {t : String} (h : DR K H x d) (e : tyS d = some t) : TyX K H x (.type t) ∧ ["NoneType", "bool", "int", "str", "list", "tuple"].contains t = true := by
  cases h with
  | non => cases e; exact ⟨.base .non, by decide⟩
  | bl b => cases e; exact ⟨.base (.bl b), by decide⟩
  | int i => cases e; exact ⟨.base (.int i), by decide⟩
  | str x => cases e; exact ⟨.base (.str x), by decide⟩
  | lst h1 d1 => cases e; exact ⟨.base (.lst h1), by decide⟩
  | frz h1 d1 =>
    cases e
    rcases h1 with (h1 | ⟨o, h1⟩) | ⟨o, its, n, h1, h2, _⟩
    · exact ⟨.base (.lst h1), by decide⟩
    · exact ⟨.base (.frz h1), by decide⟩
    · exact ⟨.kList h1 h2, by decide⟩
  | tup h1 d1 =>
    cases e
    rcases h1 with (h1 | ⟨o, h1⟩) | ⟨o, its, n, h1, h2, _⟩
    · exact ⟨.base (.tup h1), by decide⟩
    · exact ⟨.fTuple h1, by decide⟩
    · exact ⟨.kTuple h1 h2, by decide⟩
  | _ => cases e
def cbIsi : List D → Option R
  | [d, .ty c] => match tyS d with
    | some t => (isiT t c).map fun k => .im (.bl k)
    | none => none
  | _ => none
theorem cd_isi : CbD K (rIsi K) cbIsi := fun H Hs xs ds res s h e Q k => by
  unfold cbIsi at e
  split at e
  case h_2 => cases e
  rename_i d c
  cases z : tyS d with
  | none => rw [z] at e; cases e
  | some t =>
    simp only [z] at e
    cases z1 : isiT t c with
    | none => rw [z1] at e; cases e
    | some b =>
      rw [z1] at e
      cases e
      cases h with
      | cons a a2 =>
        cases a2 with
        | cons a2 a3 =>
          cases a3
          cases a2
          obtain ⟨t1, t2⟩ := tyS_ok (a.mono s) z
          exact ⟨_, _, _, _, b, rfl, .ty c, t1, kit_ty (isiT_ok t2 z1), k _ H Hs (Ext.refl s) (.bl _)⟩
end
end Bk
namespace Bk
open PySem L2
def okShow (p : PyData) : Bool := p.showable && decide (p.depth ≤ 64) && decide (p.hasDict = false) && decide (p.shown.length ≤ sizeLine)
def cbRepr : List D → Option R
  | [d] => match toPy d with
    | some p => if okShow p then some (.im (.str p.shown)) else none
    | none => none
  | _ => none
def rRepr (K : PySem.W.Frag) : List V → Hp → VK → Prop := fun xs H Q => ∃ x p, xs = [x] ∧ Dp K H x p ∧ okShow p = true ∧ Q (.str p.shown) H
theorem cr_repr {X : Cx} (hg : X.A.guards = some []) (hu : X.A.units + 70 < cLine) : CallR X (.builtin "repr") (rRepr X.K) := by
  intro pins s σ H xs us Q I r h
  obtain ⟨x, p, rfl, hp, hok, q⟩ := h
  obtain ⟨u, rfl, rx⟩ := vals1 r
  unfold okShow at hok
  rw [Bool.and_eq_true, Bool.and_eq_true, Bool.and_eq_true] at hok
  obtain ⟨⟨⟨h1, h2⟩, h3⟩, h4⟩ := hok
  have h2 := of_decide_eq_true h2
  have h3 := of_decide_eq_true h3
  have h4 := of_decide_eq_true h4
  have fin : ∀ (h' : Heap) (tk : Nat) (t : Tok), (∀ b o, s.heap.get? b = some o → h'.get? b = some o) → EP X pins σ Q (.str p.shown t) { s with heap := h', toks := tk } :=
    fun h' tk t kp => ⟨.str p.shown, H, I.kept kp, ⟨t, rfl⟩, q⟩
  obtain ⟨as, rd⟩ := Dp.reads I p x u hp rx
  cases rd with
  | none => exact PySem.P.repr_of_none (by simpa only [PyData.shown] using fin s.heap (s.toks + 1) s.toks fun _ _ z => z)
  | bool b => exact PySem.P.repr_of_bool (by simpa only [PyData.shown] using fin s.heap (s.toks + 1) s.toks fun _ _ z => z)
  | int i t => exact PySem.P.repr_of_int (by simpa [PyData.showable] using h1) (by simpa only [PyData.shown] using fin s.heap (s.toks + 1) s.toks fun _ _ z => z)
  | str y t => exact PySem.P.repr_of_str (by simpa only [PyData.shown] using fin s.heap (s.toks + 1) s.toks fun _ _ z => z) (by simpa only [PyData.shown] using h4)
  | list a b c d => exact repr_of_reads' (.list a b c d) h1 (PyData.noDict_hsm h3) hg (by omega) (fun _ _ z => z) (fun h' t tk kp => fin h' tk t kp) h4
  | tuple a b c d => exact repr_of_reads' (.tuple a b c d) h1 (PyData.noDict_hsm h3) hg (by omega) (fun _ _ z => z) (fun h' t tk kp => fin h' tk t kp) h4
  | dict a b c d e => exact repr_of_reads' (.dict a b c d e) h1 (PyData.noDict_hsm h3) hg (by omega) (fun _ _ z => z) (fun h' t tk kp => fin h' tk t kp) h4
section
variable {K : PySem.W.Frag}
theorem cd_repr : CbD K (rRepr K) cbRepr := fun H Hs xs ds res s h e Q k => by
  unfold cbRepr at e
  split at e
  case h_2 => cases e
  split at e
  case h_2 => cases e
  rename_i p z
  split at e
  case isFalse => cases e
  rename_i hf
  cases e
  cases h with
  | cons a b => cases b; exact ⟨_, p, rfl, toPy_ok (a.mono s) z, hf, k _ H Hs (Ext.refl s) (.str _)⟩
end
def pad (n : Nat) (ds : List D) : Gam := ds.map Ent.im ++ List.replicate (n - ds.length) Ent.un
def outF : Option (Fl × Gam) → Option R
  | some (.rt r, _) => some r
  | some (.nx, _) => some (.im .non)
  | _ => none
def runF (k n : Nat) (b : MS) (ds : List D) : Option R := if ds.length = k then outF (b (pad n ds)) else none
def outB : Option (Fl × Gam) → Option (R × Mob)
  | some (.rt r, .bx bs :: _) => some (r, bs)
  | some (.nx, .bx bs :: _) => some (.im .non, bs)
  | _ => none
def runB (k n : Nat) (b : MS) (bs : Mob) (ds : List D) : Option (R × Mob) := if ds.length + 1 = k then outB (b (.bx bs :: pad (n - 1) ds)) else none
/-- what stands but is hidden -/
def hid (H Hs : Hp) : Hp := fun a => match Hs a with
  | none => H a
  | some _ => none
theorem hid_some {H Hs : Hp} {a : Addr} {o : HO} (h : hid H Hs a = some o) : H a = some o ∧ Hs a = none := by
  unfold hid at h
  cases z : Hs a with
  | none => rw [z] at h; exact ⟨h, rfl⟩
  | some u => rw [z] at h; cases h
theorem hid_of {H Hs : Hp} {a : Addr} {o : HO} (h : H a = some o) (n : Hs a = none) : hid H Hs a = some o := by
  unfold hid
  rw [n]
  exact h
section
variable {K : PySem.W.Frag}
theorem pad_get {n : Nat} {ds : List D} {i : Nat} {e : Ent} (h : (pad n ds)[i]? = some e) : (∃ d, ds[i]? = some d ∧ e = .im d) ∨ e = .un := by
  unfold pad at h
  rw [List.getElem?_append] at h
  split at h
  · rw [List.getElem?_map] at h
    cases z : ds[i]? with
    | none => rw [z] at h; cases h
    | some d => rw [z] at h; cases h; exact .inl ⟨d, rfl, rfl⟩
  · exact .inr (List.eq_of_mem_replicate (List.mem_of_getElem? h))
theorem pad_len (n : Nat) (ds : List D) (h : ds.length ≤ n) : (pad n ds).length = n := by
  unfold pad
  rw [List.length_append, List.length_map, List.length_replicate]
  omega
theorem start_get {N : List PySem.Str} {vs : List V} {i : Nat} {v : V} (h : vs[i]? = some v) : (L2.start N vs)[i]? = some (some v) := by
  unfold L2.start
  have hl : i < (vs.map some).length := by
    rw [List.length_map]
    exact (List.getElem?_eq_some_iff.mp h).1
  rw [List.getElem?_append_left hl, List.getElem?_map, h]
  rfl
theorem start_len {N : List PySem.Str} {vs : List V} (h : vs.length ≤ N.length) : (L2.start N vs).length = N.length := by
  unfold L2.start
  rw [List.length_append, List.length_map, List.length_replicate]
  omega
theorem rel_start {N : List PySem.Str} {H Hs : Hp} {vs : List V} {ds : List D} (s : Same Hs H) (d : DRs K Hs vs ds) (hl : vs.length ≤ N.length) : Rel K (hid H Hs) (fun _ => 0) (pad N.length ds) (L2.start N vs) H Hs := by
  refine ⟨s, fun a o h => hid_some h, by rw [start_len hl, pad_len _ _ (by rw [← d.len]; exact hl)], fun i e h => ?_, fun i e es h h0 => ?_, fun i j e e' l h1 _ m1 _ _ _ => ?_, fun i es h => ?_⟩
  · rcases pad_get h with ⟨e', h1, h2⟩ | h2
    · cases h2
      obtain ⟨v, v1, v2⟩ := d.at h1
      exact ⟨v, start_get v1, v2⟩
    · cases h2
  · rcases pad_get h with ⟨e', _, h2⟩ | h2
    · subst h2; cases h0
    · subst h2; cases h0
  · rcases pad_get h1 with ⟨e', _, h2⟩ | h2
    · subst h2; exact absurd rfl m1
    · subst h2; exact absurd rfl m1
  · rcases pad_get h with ⟨e', _, h2⟩ | h2
    · cases h2
    · cases h2
/-- behind a def's body: what the caller wants to know -/
theorem ext_end {Fz : Hp} {ba : Nat → Addr} {G : Gam} {σ : L2.St} {H Hs H' Hs' : Hp} (s : Same Hs H) (hf : Fz = hid H Hs) (q : Rel K Fz ba G σ H' Hs') (z : Same Hs Hs') : Ext H Hs H' Hs' := by
  subst hf
  refine ⟨fun a o h => ?_, z, q.sub, fun a o h n => (q.fz a o (hid_of h n)).2⟩
  cases y : Hs a with
  | none => exact (q.fz a o (hid_of h y)).1
  | some u =>
    have e := s a u y
    rw [h] at e
    cases e
    exact q.sub a o (z a o y)
theorem res_end {Fz : Hp} {G : Gam} {σ : L2.St} {H Hs H' Hs' : Hp} {v : V} {r : R} (hf : Fz = hid H Hs) (z : Same Hs Hs') (x : Res K Fz G σ H' Hs' v r) : ResF K H H' Hs' v r := by
  subst hf
  cases r with
  | im d => exact x
  | ow ds =>
    obtain ⟨p, vs, rfl, h1, h2, h3, h4, _⟩ := x
    refine ⟨p, vs, rfl, ?_, h1, h2, h4⟩
    cases y : H p with
    | none => rfl
    | some o =>
      cases y2 : Hs p with
      | some u =>
        rw [z p u y2] at h2
        cases h2
      | none =>
        rw [hid_of y y2] at h3
        cases h3
theorem fin_F {N : List PySem.Str} {k : Nat} {t : TS} {b : MS} (h : SOk K t b) (hk : k ≤ N.length) {vs : List V} {H : Hp} {Q : VK} {E : XK} (q : spF K (runF k N.length b) vs H Q E) : t { nx := fun _ H' => Q .non H', rt := Q } (L2.start N vs) H := by
  obtain ⟨Hs, ds, r, s, d, e, kk⟩ := q
  unfold runF at e
  split at e
  case isFalse => cases e
  rename_i hl
  have hv : vs.length ≤ N.length := by rw [d.len, hl]; exact hk
  have R0 := rel_start (N := N) s d hv
  cases z : b (pad N.length ds) with
  | none => rw [z] at e; cases e
  | some p =>
    obtain ⟨fl, G'⟩ := p
    rw [z] at e
    refine h _ _ _ _ _ _ fl G' R0 z _ ?_
    cases fl with
    | nx => cases e; exact fun σ' H' Hs' q1 s1 => kk .non H' Hs' (ext_end s rfl q1 s1) .non
    | rt r' => cases e; exact fun v σ' H' Hs' q1 s1 x => kk v H' Hs' (ext_end s rfl q1 s1) (res_end rfl s1 x)
    | bk => cases e
    | ct => cases e
theorem spF_len {k n : Nat} {b : MS} {vs : List V} {H : Hp} {Q : VK} {E : XK} (q : spF K (runF k n b) vs H Q E) : vs.length = k := by
  obtain ⟨Hs, ds, r, s, d, e, kk⟩ := q
  unfold runF at e
  split at e
  case isFalse => cases e
  rename_i hl
  rw [d.len, hl]
/-- the same with a list that may change -/
def hidB (l : Addr) (H Hs : Hp) : Hp := fun a => if a = l then none else hid H Hs a
theorem hidB_of {l : Addr} {H Hs : Hp} {a : Addr} {o : HO} (ne : a ≠ l) (h : H a = some o) (n : Hs a = none) : hidB l H Hs a = some o := by
  unfold hidB
  rw [if_neg ne]
  exact hid_of h n
theorem rel_startB {N : List PySem.Str} {H Hs : Hp} {l : Addr} {bvs : HO} {vs : List V} {bds : Mob} {ds : List D} (s : Same Hs H) (hl : H l = some bvs) (hn : Hs l = none) (hb : MobO K Hs bds bvs) (d : DRs K Hs vs ds) (hz : vs.length + 1 ≤ N.length) :
    Rel K (hidB l H Hs) (fun _ => l) (.bx bds :: pad (N.length - 1) ds) (L2.start N (.ref l :: vs)) H Hs := by
  have e0 : L2.start N (.ref l :: vs) = some (.ref l) :: (vs.map some ++ List.replicate (N.length - (vs.length + 1)) none) := rfl
  have sg : ∀ {i : Nat} {v : V}, vs[i]? = some v → (L2.start N (.ref l :: vs))[i + 1]? = some (some v) := fun {i v} h => start_get (vs := .ref l :: vs) (by simpa using h)
  refine ⟨s, fun a o h => ?_, ?_, fun i e h => ?_, fun i e es h h0 => ?_, fun i j e e' l' h1 h2 m1 m2 _ _ => ?_, fun i es h => ?_⟩
  · unfold hidB at h
    split at h
    · cases h
    · exact hid_some h
  · rw [start_len (by simpa using hz), List.length_cons, pad_len _ _ (by rw [← d.len]; omega)]
    omega
  · cases i with
    | zero => cases h
    | succ i =>
      rcases pad_get (show (pad (N.length - 1) ds)[i]? = some _ by simpa using h) with ⟨e', h1, h2⟩ | h2
      · cases h2
        obtain ⟨v, v1, v2⟩ := d.at h1
        exact ⟨v, sg v1, v2⟩
      · cases h2
  · cases i with
    | zero =>
      cases h
      cases h0
      exact ⟨l, bvs, by rw [e0]; rfl, hl, hn, by unfold hidB; rw [if_pos rfl], hb⟩
    | succ i =>
      rcases pad_get (show (pad (N.length - 1) ds)[i]? = some _ by simpa using h) with ⟨e', _, h2⟩ | h2
      · subst h2; cases h0
      · subst h2; cases h0
  · have only : ∀ {i : Nat} {e : Ent}, (Ent.bx bds :: pad (N.length - 1) ds)[i]? = some e → e.mu ≠ none → i = 0 := fun {i e} h m => by
      cases i with
      | zero => rfl
      | succ i =>
        rcases pad_get (show (pad (N.length - 1) ds)[i]? = some _ by simpa using h) with ⟨e', _, h2⟩ | h2
        · subst h2; exact absurd rfl m
        · subst h2; exact absurd rfl m
    rw [only h1 m1, only h2 m2]
  · cases i with
    | zero => rw [e0]; rfl
    | succ i =>
      rcases pad_get (show (pad (N.length - 1) ds)[i]? = some _ by simpa using h) with ⟨e', _, h2⟩ | h2
      · cases h2
      · cases h2
theorem fin_B {N : List PySem.Str} {k : Nat} {t : TS} {b : MS} (h : SOk K t b) (hk : k ≤ N.length) {vs : List V} {H : Hp} {Q : VK} {E : XK} (q : spB K (runB k N.length b) vs H Q E) : t { nx := fun _ H' => Q .non H', rt := Q } (L2.start N vs) H := by
  obtain ⟨Hs, l, vs', bvs, bds, ds, r, bds', rfl, s, hl, hn, hb, d, e, kk⟩ := q
  unfold runB at e
  split at e
  case isFalse => cases e
  rename_i hlen
  have R0 := rel_startB (N := N) s hl hn hb d (by rw [d.len, hlen]; exact hk)
  -- what the caller wants to know
  have ex : ∀ {G σ H' Hs' bs}, Rel K (hidB l H Hs) (fun _ => l) (.bx bs :: G) σ H' Hs' → Same Hs Hs' → ExtB l H Hs H' Hs' ∧ ∃ ws, H' l = some ws ∧ Hs' l = none ∧ MobO K Hs' bs ws := fun {G σ H' Hs' bs} q1 s1 => by
    have hs0 : σ[0]? = some (some (.ref l)) := q1.bx 0 bs rfl
    obtain ⟨l', ws, a1, a2, a3, a4, a5⟩ := q1.mu 0 _ bs rfl rfl
    rw [hs0] at a1
    cases a1
    refine ⟨⟨fun a o ne h => ?_, s1, q1.sub, fun a o h n => ?_⟩, ws, a2, a3, a5⟩
    · cases y : Hs a with
      | none => exact (q1.fz a o (hidB_of ne h y)).1
      | some u =>
        have e := s a u y
        rw [h] at e
        cases e
        exact q1.sub a o (s1 a o y)
    · by_cases ne : a = l
      · rw [ne]; exact a3
      · exact (q1.fz a o (hidB_of ne h n)).2
  have rs : ∀ {G σ H' Hs' bs v r}, Rel K (hidB l H Hs) (fun _ => l) (.bx bs :: G) σ H' Hs' → Same Hs Hs' → Res K (hidB l H Hs) (.bx bs :: G) σ H' Hs' v r → ResF K H H' Hs' v r := fun {G σ H' Hs' bs v r} q1 s1 x => by
    cases r with
    | im d => exact x
    | ow ds =>
      obtain ⟨p, vs, rfl, h1, h2, h3, h4, h5⟩ := x
      have ne : p ≠ l := fun y => by
        subst y
        exact h5 0 _ rfl (by simp [Ent.mu]) (q1.bx 0 bs rfl)
      refine ⟨p, vs, rfl, ?_, h1, h2, h4⟩
      cases y : H p with
      | none => rfl
      | some o =>
        cases y2 : Hs p with
        | some u =>
          rw [s1 p u y2] at h2
          cases h2
        | none =>
          rw [hidB_of ne y y2] at h3
          cases h3
  cases z : b (.bx bds :: pad (N.length - 1) ds) with
  | none => rw [z] at e; cases e
  | some p =>
    obtain ⟨fl, G'⟩ := p
    rw [z] at e
    refine h _ _ _ _ _ _ fl G' R0 z _ ?_
    cases fl with
    | nx =>
      cases G' with
      | nil => cases e
      | cons e0 G' =>
        cases e0 with
        | bx bs =>
          cases e
          intro σ' H' Hs' q1 s1
          obtain ⟨x1, ws, x2, x3, x4⟩ := ex q1 s1
          exact kk .non H' Hs' ws x1 x2 x3 x4 .non
        | _ => cases e
    | rt r' =>
      cases G' with
      | nil => cases e
      | cons e0 G' =>
        cases e0 with
        | bx bs =>
          cases e
          intro v σ' H' Hs' q1 s1 x
          obtain ⟨x1, ws, x2, x3, x4⟩ := ex q1 s1
          exact kk v H' Hs' ws x1 x2 x3 x4 (rs q1 s1 x)
        | _ => cases e
    | bk => cases e
    | ct => cases e
theorem spB_len {k n : Nat} {b : MS} {vs : List V} {H : Hp} {Q : VK} {E : XK} (q : spB K (runB k n b) vs H Q E) : vs.length = k := by
  obtain ⟨Hs, l, vs', bvs, bds, ds, r, bds', rfl, s, hl, hn, hb, d, e, kk⟩ := q
  unfold runB at e
  split at e
  case isFalse => cases e
  rename_i hl
  rw [List.length_cons, d.len, hl]
end
theorem scope_le {N ps : List PySem.Str} {sc : Scope} (S : FnScope N ps sc) : ps.length ≤ N.length := by
  have h := congrArg List.length S.pre
  rw [List.length_take] at h
  omega
section
variable {P : Program} {w : World} {K : PySem.W.Frag} {mg : PySem.Str → Option Value} {base : Heap}
theorem data_F {x qual : PySem.Str} {st : Stmt} {f : Addr} {fd : FuncData} {N ps : List PySem.Str} {k : Nat} {b : MS} (F : Fun K x qual st f fd) (S : FnScope N ps (defScope st))
    (hb : ∀ (cdv : Value) (A : Around) (outer : List Env) (s : Shared) (H : Hp) (E : XK), Room k (A.deeper (PyProof.Rows.envOfC qual (defScope st) s.heap.objs.size f cdv)) →
      ∃ t, PSs (cxOf CX0 P w K mg base N qual (defScope st) f cdv A outer s H E).nox (defBody st) t ∧ SOk K t b) : FnOk P w K mg base CX0 (k + 1) f fd ps (spF K (runF ps.length N.length b)) :=
  F.ok S (fun vs H Q E q => spF_len q) fun cdv A outer s H vs Q E hr q => by
    obtain ⟨t, h1, h2⟩ := hb cdv A outer s H E hr
    exact ⟨t, h1, fin_F h2 (scope_le S) q⟩
theorem data_B {x qual : PySem.Str} {st : Stmt} {f : Addr} {fd : FuncData} {N ps : List PySem.Str} {k : Nat} {b : MS} (F : Fun K x qual st f fd) (S : FnScope N ps (defScope st))
    (hb : ∀ (cdv : Value) (A : Around) (outer : List Env) (s : Shared) (H : Hp) (E : XK), Room k (A.deeper (PyProof.Rows.envOfC qual (defScope st) s.heap.objs.size f cdv)) →
      ∃ t, PSs (cxOf CX0 P w K mg base N qual (defScope st) f cdv A outer s H E).nox (defBody st) t ∧ SOk K t b) : FnOk P w K mg base CX0 (k + 1) f fd ps (spB K (runB ps.length N.length b)) :=
  F.ok S (fun vs H Q E q => spB_len q) fun cdv A outer s H vs Q E hr q => by
    obtain ⟨t, h1, h2⟩ := hb cdv A outer s H E hr
    exact ⟨t, h1, fin_B h2 (scope_le S) q⟩
end
end Bk
namespace Bk
open PySem L2 PyProof.Rows
section
variable {P : Program} {w : World} {K : PySem.W.Frag} {mg : PySem.Str → Option Value} {base : Heap}
/-- the law's def called with one object, no call around it -/
theorem call_law {nm qual x : PySem.Str} {st : Stmt} {f a : Addr} {fd : FuncData} {N : List PySem.Str} {k : Nat} {b : MS} {s : Shared} {H : Hp} {Q : VK} (F : Fun K nm qual st f fd) (S : FnScope N [x] (defScope st)) (hr : Room (k + 1) callerA)
    (hb : ∀ (cdv : Value) (s : Shared) (H : Hp) (E : XK), (callerA.deeper (PyProof.Rows.envOfC qual (defScope st) s.heap.objs.size f cdv)).guards = some [] → Room k (callerA.deeper (PyProof.Rows.envOfC qual (defScope st) s.heap.objs.size f cdv)) →
      ∃ t, PSs (cxOf CX0 P w K mg base N qual (defScope st) f cdv callerA [] s H E).nox (defBody st) t ∧ SOk K t b)
    (e0 : Env0 P w K mg base callerA [] s H) (bd0 : BindsTo s fd ⟨[.ref a], []⟩ [(x, .ref a)]) (q : spF K (runF 1 N.length b) [.ref a] H Q E0) :
    codeAny (model P w) callerA (.call (.ref f) ⟨[.ref a], []⟩) (CR CX0 [] P w H s Q E0) s := by
  obtain ⟨oc, od, kV, doc, pm, an, cdv, ct, osl, rfl, lk, hcd⟩ := F.ex
  have KX : K.In s.heap := e0.mod.kin.keeps fun c o z => (e0.bs c o z).1
  have lim : s.heap.NoLimit := e0.mod.nolimit.keeps fun c o z => (e0.bs c o z).1
  have hpar := S.par x List.mem_cons_self
  refine codeAny_call_function hr.depth (KX f _ lk) rfl S.co S.gen rfl (PySem.W.codeRec_of KX hcd) (bd0 _ _ _ _ ?_)
  have hkd : ∀ y ∈ [(x, Value.ref a)], (defScope st).names.lookup y.1 = some .local ∨ ((defScope st).names.lookup y.1 = some .cell ∧ ((cellsFrom (s.heap.objs.size + 1) (defScope st).names []).lookup y.1).isSome = true) := by
    intro y hy
    obtain rfl := List.mem_singleton.mp hy
    rcases hpar with z | z
    · exact .inl z
    · exact .inr ⟨z, PySem.W.cellsFrom_some _ _ _ (.inl z)⟩
  refine wpAny_newFunctionEnv_cells S.kind hkd fun env he s1 y => ?_
  subst he
  refine ⟨lim.keeps y.toInCall.keep, codeAny_func ?_⟩
  obtain ⟨t, ht, hs⟩ := hb cdv s H E0 rfl (hr.deeper _)
  have I : Inv (cxOf CX0 P w K mg base N qual (defScope st) f cdv callerA [] s H E0) [] (L2.start N [.ref a]) H s1 := inv_start S hr.hd e0 rfl (.cons rfl .nil) y
  refine wpAny_mono (ht.nox.run [] s1 _ H _ I (fin_F hs (scope_le S) q)) (fun fl s2 h2 => ?_) fun e s2 h2 => h2
  cases fl with
  | ret u =>
    obtain ⟨v, σ2, H2, J, rv, q2⟩ := h2
    exact ⟨v, H2, J.os, J.bare, J.base, J.hok, rv, q2⟩
  | next =>
    obtain ⟨σ2, H2, J, q2⟩ := h2
    exact ⟨V.non, H2, J.os, J.bare, J.base, J.hok, rfl, q2⟩
  | brk =>
    obtain ⟨_, _, _, q2⟩ := h2
    exact q2.elim
  | cont =>
    obtain ⟨_, _, _, q2⟩ := h2
    exact q2.elim
end
/-- the goal that the head leaves, from what the law's body computes -/
theorem law_end {l : PySem.W.OpenLaw} {q : Program} {loose : List PySem.Str} {XP : (PySem.Str → Option Value) → Heap → Prop} {YP : World → Heap → Prop} {d : DefRec} {K : Params → PySem.W.Frag} {x : PySem.Str} {m : List D → Option R}
    (hn : l.most = some 63) (hdf : d.params.defaults = []) (hY : ∀ (w : World) (h : Heap), YP w h → (K w.params).In h)
    (F : ∀ (w : World) (mg : PySem.Str → Option Value) (fa : Addr) (h : Heap), (K w.params).In h → h.Ns mainGlobals mg → mg d.name = some (.ref fa) →
      ∃ fd : FuncData, (∀ (s : Shared) (u : Value), BindsTo s fd ⟨[u], []⟩ [(x, u)]) ∧
        ∀ (base : Heap) (s : Shared) (H : Hp) (a : Addr) (Q : VK), (K w.params).In base → base.Ns mainGlobals mg → Env0 l.prog w (K w.params) mg base callerA [] s H → BindsTo s fd ⟨[.ref a], []⟩ [(x, .ref a)] → spF (K w.params) m [.ref a] H Q E0 →
          codeAny (model l.prog w) callerA (.call (.ref fa) ⟨[.ref a], []⟩) (CR CX0 [] l.prog w H s Q E0) s)
    (hm : ∀ ns : List Int, ns.length ≤ 63 → m [.frz (ns.map .int)] = some (.im (.bl true))) :
    PySem.W.WalkO q loose XP YP l.row.toRowW d [] (fun f vs => PySem.call f vs) := by
  refine Att.attach_call hn hdf fun w s0 s1 mg mb fa o pm cd doc a vs ns G Y ho hd hcd hmg hobj hints hlen hg => ?_
  have KX := hY w _ Y
  obtain ⟨fd, hb, hF⟩ := F w mg fa _ KX G.T.g hmg
  have rv := vals_ints hints
  have hz : (ns.map V.int).length ≤ sizeLine := by rw [List.length_map]; exact Nat.le_trans hlen (by decide)
  have hsz : vs.toArray.size ≤ sizeLine := by rw [List.size_toArray, ← rv.length]; exact hz
  -- the run, from an abstract heap that knows the script at most
  have go : ∀ H : Hp, (∀ c, H c ≠ none → c = a) → (∀ c, H c = none ∨ ∃ ob xs, H c = some (.frz ob (.lst xs))) → SqL (K w.params) H a (ns.map V.int) → HOk l.prog w H s1.heap → (H a ≠ none → (K w.params).lookup a = none) →
      codeAny (model l.prog w) callerA (.call (.ref fa) ⟨[.ref a], []⟩) (fun r s' => r = .ok (.ret (.bool true)) ∧ OldK s1.heap s'.heap ∧ s'.os = s1.os ∧ AllBare s'.gens) s1 := by
    intro H hA hO hS hok hK
    have keepB : ∀ {c : Addr} {ob : Obj}, s1.heap.get? c = some ob → H c = none → (hidT s1.heap H).get? c = some ob := fun e n => hidT_get e n
    have free : ∀ {c : Addr} {ob : Obj}, s1.heap.get? c = some ob → (∀ its n, ob.data ≠ .seq its n) → H c = none := fun {c ob} e nd => by
      cases z : H c with
      | none => rfl
      | some u =>
        have e' := hA c (by rw [z]; simp)
        subst e'
        rw [hobj] at e
        cases e
        exact absurd rfl (nd _ _)
    have nsB : ∀ {c : Addr} {m : PySem.Str → Option Value}, s1.heap.Ns c m → (hidT s1.heap H).Ns c m := fun {c m} ⟨ob, es, ep, e, dd, r⟩ => ⟨ob, es, ep, keepB e (free e fun its n z => by rw [dd] at z; cases z), dd, r⟩
    have KB : (K w.params).In (hidT s1.heap H) := fun c ob e => keepB (KX c ob e) (by
      cases z : H c with
      | none => rfl
      | some u =>
        have e' := hA c (by rw [z]; simp)
        subst e'
        rw [hK (by rw [z]; simp)] at e
        cases e)
    have MB : Mod (K w.params) mg (hidT s1.heap H) := ⟨KB, nsB G.T.g, ⟨mb, nsB G.T.b, G.T.builtins⟩, let ⟨mc, z1, z2⟩ := G.T.nolimit; ⟨mc, nsB z1, z2⟩⟩
    have e0 : Env0 l.prog w (K w.params) mg (hidT s1.heap H) callerA [] s1 H :=
      ⟨rfl, MB, fun c ob e => of_hidT e, Nat.le_of_eq (hidT_size _ _), trivial, fun c hc => absurd (show c ∈ ([] : List Addr) from hc) (by simp), hok, .of_eq hg⟩
    have sp : spF (K w.params) m [.ref a] H (fun v _ => v = .bl true) E0 :=
      ⟨H, _, _, Same.refl _, .cons (.frz hS (DRs.ints ns)) .nil, hm ns hlen, fun v H' Hs' _ r => dr_bl r⟩
    refine codeAny_mono (hF _ s1 H a _ KB (nsB G.T.g) e0 (hb s1 _) sp) fun r s2 h2 => ?_
    cases r with
    | error e => exact h2.elim
    | ok fl =>
      cases fl with
      | next => exact h2.elim
      | brk => exact h2.elim
      | cont => exact h2.elim
      | ret u =>
        obtain ⟨v, H2, os, bare, un, hok2, rv2, qv⟩ := h2
        have qv' : v = .bl true := qv
        subst qv'
        obtain rfl : u = Value.bool true := rv2
        refine ⟨rfl, OldK.of_keep fun c ob e => ?_, os, bare⟩
        rcases hO c with z | ⟨ob2, xs, z⟩
        · exact un.keep c ob e z (by intro y; exact absurd (show c ∈ ([] : List Addr) from y) (by simp)) (by simp)
        · have y := un.frzs c ob2 _ z
          obtain ⟨y1, _⟩ := hok c _ z
          obtain ⟨y2, _⟩ := hok2 c _ y
          rw [e] at y1
          cases y1
          exact y2
  cases hk : (K w.params).lookup a with
  | some ob =>
    have e := KX a ob hk
    rw [hobj] at e
    cases e
    exact go (fun _ => none) (fun c z => absurd rfl z) (fun _ => .inl rfl) (.inr ⟨_, vs.toArray, _, hk, rfl, rfl, rfl, hsz, by simpa using rv⟩) (fun c u z => by cases z) fun z => absurd rfl z
  | none =>
    have yes : ∀ {u : HO}, (if a = a then some u else none) = some u := fun {u} => if_pos rfl
    refine go (fun c => if c = a then some (.frz { cls := .type "list", data := .seq vs.toArray } (.lst (ns.map V.int))) else none) (fun c z => ?_) (fun c => ?_) (.inl (.inr ⟨_, yes⟩)) (fun c u z => ?_) fun _ => hk
    · refine Classical.byContradiction fun ne => z (if_neg ne)
    · by_cases e : c = a
      · exact .inr ⟨_, _, if_pos e⟩
      · exact .inl (if_neg e)
    · by_cases e : c = a
      · subst e
        have z' := yes.symm.trans z
        cases z'
        exact ⟨hobj, hz, vs, _, rv, hobj⟩
      · have z' := (if_neg e).symm.trans z
        cases z'
end Bk
namespace Bk
open PySem L2 PyProof.Rows
def rSlA (K : PySem.W.Frag) : V → Option Int → Option Int → Hp → VK → Prop := fun x lo hi H Q => rSlL K x lo hi H Q ∨ rSlT K x lo hi H Q
section
variable {K : PySem.W.Frag}
/-- xs[::k], k reckoned to be -1 -/
def tRevS (K : PySem.W.Frag) (te tk : TE) : TE := fun σ H Q => te σ H fun x H1 => tk σ H1 fun y H2 => y = .int (-1) ∧ (some (-1 : Int) = some (-1) ∧ ∃ a xs, x = .ref a ∧ SqL K H2 a xs ∧ ∀ p, H2 p = none → Q (.ref p) (upd H2 p (.lst xs.reverse)))
theorem pe_revS {X : Cx} {e st : Expr} {te tk : TE} {p3 pos : Pos} (he : PE X e te) (hk : PE X st tk) :
    PE X (.Subscript e (.Slice none none (some st) p3) pos) (tRevS X.K te tk) := by
  refine ⟨fun pins s σ H Q I h => ?_⟩
  refine Subscript_ (thn (he.run pins s σ H _ I h) fun v s1 ⟨x, H1, I1, r1, q1⟩ => ?_)
  refine wpAny_Slice (thn (po_none.run pins s1 σ H1 (fun o H2 => o = none ∧ H2 = H1) I1 ⟨rfl, rfl⟩) fun vl s2 ⟨l, H2, I2, pl, el, e2⟩ => ?_)
  subst el e2
  refine thn (po_none.run pins s2 σ H2 (fun o H3 => o = none ∧ H3 = H2) I2 ⟨rfl, rfl⟩) fun vu s3 ⟨u, H3, I3, pu, eu, e3⟩ => ?_
  subst eu e3
  have hst : PO X (some st) (fun σ H Q => tk σ H fun y H2 => y = .int (-1) ∧ Q (some (-1)) H2) := by
    refine ⟨fun pins s σ H Q I hw => ?_⟩
    rw [evalPart_some]
    refine thn (hk.run pins s σ H _ I hw) fun u s1 ⟨y, H1, I1, r1, q1⟩ => ?_
    obtain ⟨rfl, q⟩ := q1
    obtain ⟨t, rfl⟩ := r1
    exact ⟨some (-1), H1, I1, .int (-1) t, q⟩
  refine thn (hst.run pins s3 σ H3 (fun o H4 => o = some (-1) ∧ ∃ a xs, x = .ref a ∧ SqL X.K H4 a xs ∧ ∀ p, H4 p = none → Q (.ref p) (upd H4 p (.lst xs.reverse))) I3 q1) fun vs s4 ⟨o, H4, I4, ps, eo, a, xs, ex, hx, q⟩ => ?_
  subst eo ex
  cases r1
  have I5 : Inv X pins σ H4 { s4 with heap := s4.heap.push { cls := .type "slice", data := .fields #[vl, vu, vs] } } := I4.kept (t' := s4.toks) fun b ob q => Heap.get?_push_of_some _ q
  obtain ⟨its, r, ht, hz⟩ := I5.list hx
  have hlen := r.length
  show wpAny (model X.prog X.w) X.A (subscriptTail e (.Slice none none (some st) p3) (.ref a) (.ref s4.heap.objs.size)) (EP X pins σ Q) X.xe { s4 with heap := s4.heap.push { cls := .type "slice", data := .fields #[vl, vu, vs] } }
  refine tail_any (ops := [.ref a, .ref s4.heap.objs.size]) ht.isList.typeIs (PySem.slot_list_getitem.lookup) ?_ (by with_unfolding_all rfl)
  refine wpAny_getItem_list_slice ht.isList (Heap.IsSliceOf.new _ vl vu vs) pl pu ps (by decide) ?_ (by rw [List.size_toArray]; omega)
  rw [PySem.W.krv_pick]
  refine ⟨.ref _, _, I5.laid (t' := s4.toks) (o := .lst xs.reverse) (fun b ob q => Heap.get?_push_of_some _ q) (Nat.le_refl _) ?_, rfl, q _ (I5.hok.fresh (Nat.le_refl _))⟩
  exact ⟨by rw [List.length_reverse]; exact hz, _, 0, r.reverse, Heap.get?_push_size _ rfl⟩
def xrev (a b : M R) : M R := fun G => bd (a G) fun x G1 => bd (b G1) fun y G2 => match asL x.d, y.d with
  | some ds, .int k => if k = -1 then some (.ol ds.reverse, G2) else none
  | _, _ => none
theorem gk_rev {te tk : TE} {a b : M R} (ha : GOk K te a) (hb : GOk K tk b) : GOk K (tRevS K te tk) (xrev a b) := fun Fz ba G σ H Hs res G' q e Q k => by
  obtain ⟨x, G1, e1, e⟩ := bd_inv e
  obtain ⟨y, G2, e2, e⟩ := bd_inv e
  split at e
  case h_2 => cases e
  rename_i ds n h1 h2
  split at e
  case isFalse => cases e
  rename_i hn
  cases e
  refine ha.im q e1 fun v1 H1 Hs1 q1 s1 d1 => ?_
  refine hb.im q1 e2 fun v2 H2 Hs2 q2 s2 d2 => ?_
  rw [h2] at d2
  obtain ⟨a1, x1, rfl, l1, r1⟩ := asL_ok (d1.mono s2) h1
  refine ⟨by rw [dr_int d2, hn], rfl, a1, x1, rfl, same_lst q2.sub l1, fun p hp => ?_⟩
  have ex : Ext H2 Hs2 (upd H2 p (.lst x1.reverse)) Hs2 := Ext.hid q2.sub hp
  have rf : ResF K H2 (upd H2 p (.lst x1.reverse)) Hs2 (.ref p) (.ol ds.reverse) := ⟨p, _, rfl, hp, upd_same, none_sub q2.sub hp, _, rfl, r1.rev⟩
  exact k _ _ _ (q2.ext ex) ((s1.trans s2).trans ex.b) (rf.res q2)
def iSeq (K : PySem.W.Frag) (tl : TE) : TI := fun σ H R => tl σ H fun x H1 => ∃ a, x = .ref a ∧ (((∃ xs, SqL K H1 a xs) ∧ R (Itl K a) H1) ∨ ((∃ xs, SqT K H1 a xs) ∧ R (Itt K a) H1))
theorem pi_seq {X : Cx} {tg l : Expr} {tl : TE} (hl : PE X l tl) : PI X tg l (iSeq X.K tl) := by
  refine ⟨fun pins s σ H R I h => ?_⟩
  refine thn (hl.run pins s σ H _ I h) fun v s1 ⟨x, H1, I1, r1, q1⟩ => ?_
  obtain ⟨a, ex, hh⟩ := q1
  subst ex
  cases r1
  have fp : ∀ b ∈ [s1.heap.objs.size], FpOk X pins H1 b := fun b hb => by
    have e : b = s1.heap.objs.size := by simpa using hb
    subst e
    exact I1.fpOk (Nat.le_refl _) I1.fresh
  rcases hh with ⟨⟨xs, hq⟩, q⟩ | ⟨⟨xs, hq⟩, q⟩
  · obtain ⟨its, rv, p, hz⟩ := I1.list hq
    exact wpAny_pyIter_list p.isList ⟨_, _, _, _, H1, rfl, I1.kept (t' := s1.toks) fun b o e => Heap.get?_push_of_some _ e, turn_list a _, ⟨_, Heap.get?_push_size _ rfl, rfl, rfl⟩, fp, q⟩
  · obtain ⟨its, rv, p, hz⟩ := I1.tuple hq
    exact wpAny_pyIter_tuple (show s1.heap.IsTuple a its.toArray from p) ⟨_, _, _, _, H1, rfl, I1.kept (t' := s1.toks) fun b o e => Heap.get?_push_of_some _ e, turn_tuple a _, ⟨_, Heap.get?_push_size _ rfl, rfl, rfl⟩, fp, q⟩
def xseqI (a : M R) : M (List D) := fun G => bd (a G) fun x G1 => match seqD x.d with
  | some ds => some (ds, G1)
  | none => none
theorem ik_seq {ta : TE} {a : M R} (ha : GOk K ta a) : IOk K (iSeq K ta) (xseqI a) := fun Fz ba G σ H Hs ds G' q e Q k => by
  obtain ⟨x, G1, e1, e⟩ := bd_inv e
  refine ha.im q e1 fun v H1 Hs1 q1 s1 d => ?_
  cases h : x.d with
  | lst es =>
    rw [h] at e d
    cases e
    cases d with
    | lst hl hd => exact ⟨_, rfl, .inl ⟨⟨_, SqL.of (q1.sub _ _ hl)⟩, k _ H1 Hs1 q1 s1 (yl_list (SqL.of hl) hd)⟩⟩
  | frz es =>
    rw [h] at e d
    cases e
    cases d with
    | frz hl hd => exact ⟨_, rfl, .inl ⟨⟨_, same_lst q1.sub hl⟩, k _ H1 Hs1 q1 s1 (yl_list hl hd)⟩⟩
  | tup es =>
    rw [h] at e d
    cases e
    cases d with
    | tup hl hd => exact ⟨_, rfl, .inr ⟨⟨_, same_tup q1.sub hl⟩, k _ H1 Hs1 q1 s1 (yl_tup hl hd)⟩⟩
  | _ => rw [h] at e; cases e
end
theorem r70 {k : Nat} {A : Around} (hr : Room k A) : A.units + 70 < cLine := by
  have := hr.un
  omega
section
variable {X : Cx} {K : PySem.W.Frag} (hK : X.K = K)
include hK
theorem kop_eq (hu : X.A.units + 64 < cLine) : OpR X (compareOp .Eq) (rEqA K) := hK ▸ op_eqA hu
theorem kop_ne (hu : X.A.units + 64 < cLine) : OpR X (compareOp .NotEq) (rNeA K) := hK ▸ op_neA hu
theorem kix : IxR X (rIx K) := hK ▸ ix_seq
theorem kpi_seq {tg l : Expr} {tl : TE} (hl : PE X l tl) : PI X tg l (iSeq K tl) := hK ▸ pi_seq hl
theorem kcr_len : CallR X (.builtin "len") (rLen K) := hK ▸ cr_len
theorem kcr_all (hc : X.calm = true) : CallR X (.builtin "all") (rAll K) := hK ▸ cr_all hc
theorem kcr_tuple : CallR X (.type "tuple") (rTupleOf K) := hK ▸ cr_tuple
theorem kcr_repr (hg : X.A.guards = some []) (hu : X.A.units + 70 < cLine) : CallR X (.builtin "repr") (rRepr K) := hK ▸ cr_repr hg hu
theorem kcr_isi : CallR X (.builtin "isinstance") (rIsi K) := hK ▸ call_isi
theorem kpe_rev {e st : Expr} {te tk : TE} {p3 pos : Pos} (he : PE X e te) (hk : PE X st tk) : PE X (.Subscript e (.Slice none none (some st) p3) pos) (tRevS K te tk) := hK ▸ pe_revS he hk
theorem kpg_tup {es : List Expr} {k : Nat} {t : TGs} {n : Nat} {pos : Pos} (hc : X.calm = true) (h : PGs X es t)
    (hn : (assignEach es X.env).length = n := by rfl) (hst : (assignEach es X.env).findIdx? (·.1) = none := by rfl) : PG X (.Tuple es k pos) (gTup K n t) := hK ▸ pg_tup hc h hn hst
def tTruK (K : PySem.W.Frag) (ta : TE) : TT := fun σ H Q => ta σ H fun x H' => ∃ k, TruV K x H' k ∧ Q k H'
theorem kpt_tru {a : Expr} {ta : TE} (ha : PE X a ta) (he : ∀ whole, isTrue a X.env whole = (do let v ← whole; standAt a.pos; holding [v] (truthy v))) : PT X a (tTruK K ta) := hK ▸ pt_truth ha he
theorem kpe_app {o e : Expr} {to te : TE} {apos cpos : Pos} (ho : PE X o to) (he : PE X e te)
    (hbase : attributeBase o "append" X.env (eval o X.env) = eval o X.env := by rfl)
    (hfew : ((backTo cpos (starEach [e] X.env)).all (fun x => !x.1) && (backToKw cpos (keywordEach [] X.env)).all (fun x => x.1.isSome) && decide ([e].length + ([] : List Keyword).length + (if ([] : List Keyword).isEmpty then 0 else 1) < 30)) = true := by rfl)
    (hline : (apos.endLine == cpos.line) = true := by rfl) (hs : starEach [e] X.env = (false, eval e X.env) :: starEach [] X.env := by rfl) (hplain : (backTo cpos (starEach [] X.env)).any (·.1) = false := by rfl) :
    PE X (.Call (.Attribute o "append" apos) [e] [] cpos) (tBM K "list" rAppend to (tCons te tNil)) :=
  hK ▸ pe_bm PySem.F.plainAttrs_list PySem.F.slot_list_append PySem.F.type_list_append mt_append ho (pa_cons he pa_nil hs) hbase hfew hline hs hplain
end
theorem tk_truK {K : PySem.W.Frag} {ta : TE} {a : M R} (ha : GOk K ta a) : TOk K (tTruK K ta) (xtru a) := tk_tru ha
/-- turns enough: one more than the number of the name at i -/
def fuelI (i : Nat) (G : Gam) : Nat := match G[i]? with
  | some (.im (.int j)) => j.natAbs + 1
  | _ => 0
/-- a def of the text, where it stands -/
structure FnT (K : PySem.W.Frag) (mg : PySem.Str → Option Value) (x : PySem.Str) (st : Stmt) where
  f : Addr
  fd : FuncData
  F : Fun K x x st f fd
  m : mg x = some (.ref f)
/-- a global that stands for data -/
structure CoT (K : PySem.W.Frag) (mg : PySem.Str → Option Value) (x : PySem.Str) (d : D) where
  v : V
  u : Value
  m : mg x = some u
  r : RelV v u
  d : ∀ H, DR K H v d
def coTup {K : PySem.W.Frag} {h : Heap} {mg : PySem.Str → Option Value} {x : PySem.Str} (X : K.In h) (G : h.Ns mainGlobals mg) {a : Addr} {dd : Option Addr} {its : Array Value} {n : Nat} {sl : Array (Option Value)} {vs : List V} {ds : List D}
    (ha : PySem.W.nsIn K mainGlobals x = some (some (.ref a))) (l : K.lookup a = some ⟨.type "tuple", dd, .seq its n, sl⟩) (hz : its.size ≤ sizeLine) (hv : Vals vs its.toList) (hd : ∀ H, DRs K H vs ds) : CoT K mg x (.tup ds) :=
  ⟨.ref a, .ref a, PySem.W.mg_of X G ha, rfl, fun H => .tup (.inr ⟨_, its, n, l, rfl, rfl, hz, hv⟩) (hd H)⟩
def fnT {K : PySem.W.Frag} {h : Heap} {mg : PySem.Str → Option Value} {x : PySem.Str} {st : Stmt} (X : K.In h) (G : h.Ns mainGlobals mg) {f : Addr} {od an : Option Addr} {sl : Array (Option Value)} {oc kV dc pm cd ct : Value}
    (a : PySem.W.nsIn K mainGlobals x = some (some (.ref f))) (l : K.lookup f = some ⟨oc, od, .func (PySem.W.fnOf x x (defArgs st) (defBody st) (defScope st) .none kV dc pm an cd ct), sl⟩) (c : PySem.W.codeIn K cd x = true) (k : PySem.W.keepIn K (.ref f) = true) : FnT K mg x st :=
  ⟨f, _, fun_mk l c k, PySem.W.mg_of X G a⟩
end Bk
namespace Bk
open PySem L2 PySem.Builtin PySem.Spec PyProof.Rows
theorem enum_of {v : Value} {o : Obj} {H : Heap → Prop} (B : Begins v o H) :
    Meets (Builtin.«enumerate.__new__» ⟨[.type "enumerate", v], []⟩) (fun _ R s => H s.heap ∧ R (.ok (.ret (.ref (s.heap.push o).objs.size)))
      { s with heap := (s.heap.push o).push { cls := .type "enumerate", data := .fields #[.none, .bool false, .ref s.heap.objs.size, rawInt 0, .none, .none] } }) :=
  .of_wp fun prog w A R s hh => by
    obtain ⟨hp, g, d, tk, os⟩ := s
    obtain ⟨hb, hr⟩ := hh
    have hsub := sub_enumerate
    have qi : ∀ {A' : Around} {E Q : Value → Shared → Prop}, Q (.ref hp.objs.size) ⟨hp.push o, g, d, tk, os⟩ → wpAny (model prog w) A' (pyIter v) Q E ⟨hp, g, d, tk, os⟩ := fun k => B.iter prog w _ _ ⟨hp, g, d, tk, os⟩ _ hb k
    wp_walk using qi
    refine wpAny_stack_any fun fr => wpAny_pure ?_
    split
    case h_1 c _ _ _ _ _ =>
      cases (c == Value.type "enumerate") <;> (wp_walk using qi; exact ⟨_, rfl, hr⟩)
    all_goals (wp_walk using qi; exact ⟨_, rfl, hr⟩)
theorem enum_call {prog : Program} {w : World} {A : Around} {E : Value → Shared → Prop} {s : Shared} {v : Value} {o : Obj} {H : Heap → Prop} {Q : Value → Shared → Prop} (B : Begins v o H) (h1 : H s.heap)
    (h : ∀ h', IsEnum h' (s.heap.objs.size + 1) s.heap.objs.size 0 .none → h'.get? s.heap.objs.size = some o → (∀ b ob, s.heap.get? b = some ob → h'.get? b = some ob) → Q (.ref (s.heap.objs.size + 1)) { s with heap := h' }) :
    wpAny (model prog w) A (call (.type "enumerate") [v]) Q E s := by
  have hz : (s.heap.push o).objs.size = s.heap.objs.size + 1 := Heap.size_push ..
  have he := Heap.get?_push_size (s.heap.push o) (o := { cls := .type "enumerate", data := .fields #[.none, .bool false, .ref s.heap.objs.size, rawInt 0, .none, .none] }) rfl
  rw [hz] at he
  refine callType_new F.called_enumerate (by decide) (F.typeCall_enumerate_1 _) (F.newCall_enumerate_1 _) (fun ob => F.args_object_init_2 ob _) F.entry_enumerate_new (enum_of B) ⟨h1, ?_⟩
  show _ ∧ _
  rw [hz]
  exact ⟨⟨_, he, rfl⟩, h _ he (Heap.get?_push_of_some _ (Heap.get?_push_size _ B.free)) fun b ob x => Heap.get?_push_of_some _ (Heap.get?_push_of_some _ x)⟩
theorem draws_end {prog : Program} {w : World} {A : Around} (hh : A.handled = none) (it t : Addr) (items : Array Value) (i : Nat) (hi : items.size ≤ i) :
    Draws prog w A it [it, t] i (fun _ _ => True) (fun j h => (h.IsTupleIter it t j ∧ h.IsTuple t items) ∧ j = i) where
  live := fun _ _ st => st.1.1.elim fun o ho => ⟨o, ho.1⟩
  frame := fun _ _ _ st hk => ⟨⟨st.1.1.at fun o e => hk it (by simp) o e, st.1.2.at fun o e => hk t (by simp) o e⟩, st.2⟩
  item := fun j s Q E hj st hQ => absurd st.2 (Nat.ne_of_lt hj)
  done := fun s Q E st hE => wpAny_nextOf_tuple_end hh st.1.1 st.1.2 (Array.getElem?_eq_none hi) hE
/-- the tuple at a, each item in a new pair -/
def Itet (K : PySem.W.Frag) (a : Addr) : It :=
  ⟨fun i H => ∃ (xs : List V) (x : V), SqT K H a xs ∧ xs[i]? = some x, fun i H v H' => ∃ T x, v = .ref T ∧ H T = none ∧ H' = upd H T (.tup [.int (i : Nat), x]) ∧ ∀ xs, SqT K H a xs → xs[i]? = some x, fun i H => ∃ xs : List V, SqT K H a xs ∧ xs.length ≤ i⟩
theorem turn_enumT {P : Program} {w : World} {K : PySem.W.Frag} {elts : List Expr} {kk : Nat} {tpos : Pos} (a e it : Addr) (hea : e ≠ a) (hta : a ≠ it) :
    Turn P w K (.Tuple elts kk tpos) (Itet K a) [e, it] e (fun i h => (∃ old, IsEnum h e it ((i : Nat) : Int) old) ∧ h.IsTupleIter it a i ∧ e ≠ it) where
  mem := by simp
  obj := fun i h st b hb => by
    obtain ⟨⟨old, he⟩, ⟨o, ho, hc, hd⟩, _⟩ := st
    have eb : b = e ∨ b = it := by simpa using hb
    rcases eb with rfl | rfl
    · exact ⟨_, he, fun v q => nomatch q⟩
    · exact ⟨o, ho, fun v q => by rw [hd] at q; cases q⟩
  keep := fun i h h' st k => ⟨st.1.elim fun old he => ⟨old, k e (by simp) _ he⟩, st.2.1.at fun o q => k it (by simp) o q, st.2.2⟩
  item := by
    intro X hP hw hK hc i pins s σ H E I hf st hg
    subst hP hw hK
    obtain ⟨⟨old, he⟩, hit, hne⟩ := st
    obtain ⟨xs, x, hq, hx⟩ := hg
    obtain ⟨its, rv, p, hz⟩ := I.tuple hq
    obtain ⟨u, hu, ru⟩ := rv.get hx
    have hlt : i < its.toArray.size := by
      have : i < its.length := (List.getElem?_eq_some_iff.mp hu).1
      simpa using this
    have hel : e < s.heap.objs.size := Heap.lt_size he
    have hil : it < s.heap.objs.size := by obtain ⟨_, q, _⟩ := hit; exact Heap.lt_size q
    refine wpAny_pyNext_enum_itemD (Draws.tuple (A := X.A.in1) (I.ok.hd hc) it a hta its.toArray) he ⟨hit, show s.heap.IsTuple a its.toArray from p⟩ hlt hne (by simp [hne, hea]) fun y h' tk hP ho st' hT hsz hk => ?_
    have ey : y = u := by
      have : its[i]? = some y := by simpa using hP
      rw [hu] at this
      cases this
      rfl
    subst ey
    refine ⟨_, rfl, wpAny_letOwnedTupleGo_enum (s := { s with heap := h', toks := tk + 1 }) ho fun h'' he' sb => ?_⟩
    have hT2 := (sb.2 _ (Nat.ne_of_gt hel)).trans hT
    have new : ObjOk X.prog X.w (upd H s.heap.objs.size (.tup [.int (i : Nat), x])) h'' s.heap.objs.size (.tup [.int (i : Nat), x]) :=
      ⟨by show 2 ≤ sizeLine; decide, [.int i tk, y], .cons ⟨_, rfl⟩ (.cons ru .nil), ⟨_, hT2, rfl, _, rfl⟩⟩
    have I1 : Inv X pins σ (upd H s.heap.objs.size (.tup [.int (i : Nat), x])) { s with heap := h'', toks := tk + 1 } :=
      I.turnedNew (ch := [e, it]) (fun b ob hb q => (sb.2 b (fun z => hb (by simp [z]))).trans (hk b ob (fun z => hb (by simp [z])) (fun z => hb (by simp [z])) q)) hf (Nat.le_refl _) new
    refine ⟨.ref s.heap.objs.size, _, I1, rfl, ⟨_, x, rfl, I.hok.fresh (Nat.le_refl _), rfl, fun ys hy => by rw [I.tuple_inj hy hq]; exact hx⟩, ⟨⟨y, ?_⟩, st'.1.at fun o q => (sb.2 it (Ne.symm hne)).trans q, hne⟩, fun b hb => ?_⟩
    · rw [show ((i + 1 : Nat) : Int) = (i : Int) + 1 by omega]
      exact he'
    · have eb : b = e ∨ b = it := by simpa using hb
      have hlb : b < s.heap.objs.size := by rcases eb with rfl | rfl; exact hel; exact hil
      rw [upd_ne (Nat.ne_of_lt hlb)]
      exact (hf b hb).1
  done := by
    intro X hP hw hK hc i pins s σ H E I hf st hg
    subst hP hw hK
    obtain ⟨⟨old, he⟩, hit, hne⟩ := st
    obtain ⟨xs, hq, hx⟩ := hg
    obtain ⟨its, rv, p, hz⟩ := I.tuple hq
    have hl := rv.length
    obtain ⟨f0, f1, f2, f3, f4, f5⟩ := hf it (by simp)
    exact wpAny_pyNext_enum_endD (draws_end (A := X.A.in1) (I.ok.hd hc) it a its.toArray i (by simp; omega)) he ⟨⟨hit, show s.heap.IsTuple a its.toArray from p⟩, rfl⟩ fun h' eb => ⟨rfl, I.turned (t' := s.toks) (fun b o hb q => eb b o hb q) f0 f1 f3 f4 f5⟩
  self := fun A i s Q E st h => let ⟨⟨_, he⟩, _⟩ := st; wpAny_pyIter_enum he h
/-- over a list or a tuple -/
def iEnumA (K : PySem.W.Frag) (ta : TA) : TI := fun σ H R => ta σ H fun vs H1 => ∃ a, vs = [.ref a] ∧ (((∃ xs, SqL K H1 a xs) ∧ R (Ite K a) H1) ∨ ((∃ xs, SqT K H1 a xs) ∧ R (Itet K a) H1))
theorem pi_enumA {X : Cx} {e : Expr} {ta : TA} {p pos tpos : Pos} {elts : List Expr} {kk : Nat} (hg : Gl X "enumerate") (hm : X.mg "enumerate" = none) (ha : PA X [e] ta) (hs : starEach [e] X.env = [(false, eval e X.env)] := by rfl) :
    PI X (.Tuple elts kk tpos) (.Call (.Name "enumerate" p) [e] [] pos) (iEnumA X.K ta) := by
  refine ⟨fun pins s σ H R I h => Call_ (ld_blt I hg hm boot_enumerate (callWith_type1 (thn (ha.run pos pins s σ H _ I h) fun us s1 ⟨vs, H1, I1, r1, a, ex, q⟩ => ?_) hs rfl))⟩
  subst ex
  cases r1 with
  | cons r rr =>
    cases rr
    cases r
    have fp : ∀ b ∈ [s1.heap.objs.size + 1, s1.heap.objs.size], FpOk X pins H1 b := fun b hb => by
      have eb : b = s1.heap.objs.size + 1 ∨ b = s1.heap.objs.size := by simpa using hb
      have hle : s1.heap.objs.size ≤ b := by
        rcases eb with rfl | rfl
        · exact Nat.le_succ _
        · exact Nat.le_refl _
      exact I1.fpOk hle (I1.hok.fresh hle)
    rcases q with ⟨⟨xs, hq⟩, q⟩ | ⟨⟨xs, hq⟩, q⟩
    · obtain ⟨its, rv, p', hz⟩ := I1.list hq
      exact call_enumerate_list p'.isList fun h' he hit hsz hk => wpAny_pyIter_enum he ⟨_, _, _, _, H1, rfl, I1.kept (t' := s1.toks) hk, turn_enum a _ _, ⟨⟨.none, he⟩, hit, Nat.succ_ne_self _⟩, fp, q⟩
    · obtain ⟨its, rv, p', hz⟩ := I1.tuple hq
      have hlt : a < s1.heap.objs.size := by obtain ⟨o, e, _⟩ := p'; exact Heap.lt_size e
      exact enum_call (begins_tuple a its.toArray) (show s1.heap.IsTuple a its.toArray from p') fun h' he hit hk => wpAny_pyIter_enum he
        ⟨_, _, _, _, H1, rfl, I1.kept (t' := s1.toks) hk, turn_enumT a _ _ (Nat.ne_of_gt (Nat.lt_succ_of_lt hlt)) (Nat.ne_of_lt hlt), ⟨⟨.none, he⟩, ⟨_, hit, rfl, rfl⟩, Nat.succ_ne_self _⟩, fp, q⟩
section
variable {K : PySem.W.Frag}
theorem yl_enumT {Hs : Hp} {a : Addr} {xs : List V} {ds : List D} (ha : SqT K Hs a xs) (da : DRs K Hs xs ds) : Yl K (Itet K a) (enumD 0 ds) Hs where
  go := fun i H s hi => by
    rw [enum_len] at hi
    exact ⟨xs, xs[i]'(by rw [da.len]; omega), same_tup s ha, by simp⟩
  stop := fun i H s hi => by
    rw [enum_len] at hi
    exact ⟨xs, same_tup s ha, by rw [da.len]; omega⟩
  yld := fun i x H H' Hs1 _ s s1 y => by
    obtain ⟨T, x1, rfl, hT, rfl, h1⟩ := y
    obtain ⟨d1, e1, r1⟩ := da.ta (h1 xs (same_tup (s.trans s1) ha))
    have ex : Ext H Hs1 (upd H T (.tup [.int (i : Nat), x1])) (upd Hs1 T (.tup [.int (i : Nat), x1])) := Ext.new s1 hT
    refine ⟨.tup [.int (i : Nat), d1], _, ?_, ex, .tup (SqT.of upd_same) (.cons (.int _) (.cons (r1.mono (s.trans ex.b)) .nil))⟩
    rw [enum_get e1, Nat.zero_add]
def xenumA (a : M (List D)) : M (List D) := fun G => bd (a G) fun xs G1 => match xs with
  | [x] => match seqD x with
    | some ds => some (enumD 0 ds, G1)
    | none => none
  | _ => none
theorem ik_enumA {ta : TA} {a : M (List D)} (ha : AOk K ta a) : IOk K (iEnumA K ta) (xenumA a) := fun Fz ba G σ H Hs ds G' q e Q k => by
  obtain ⟨xs, G1, e1, e⟩ := bd_inv e
  refine ha Fz ba G σ H Hs xs _ q e1 _ fun vs H1 Hs1 q1 s1 d => ?_
  split at e
  case h_2 => cases e
  rename_i x
  cases d with
  | cons d1 d2 =>
    cases d2
    cases h : seqD x with
    | none => rw [h] at e; cases e
    | some es =>
      rw [h] at e
      cases e
      cases x with
      | lst xs => cases h; obtain ⟨a1, x1, rfl, l1, r1⟩ := asL_ok d1 rfl; exact ⟨a1, rfl, .inl ⟨⟨_, same_lst q1.sub l1⟩, k _ H1 Hs1 q1 s1 (yl_enum l1 r1)⟩⟩
      | frz xs => cases h; obtain ⟨a1, x1, rfl, l1, r1⟩ := asL_ok d1 rfl; exact ⟨a1, rfl, .inl ⟨⟨_, same_lst q1.sub l1⟩, k _ H1 Hs1 q1 s1 (yl_enum l1 r1)⟩⟩
      | tup xs =>
        cases h
        cases d1 with
        | tup hl hd => exact ⟨_, rfl, .inr ⟨⟨_, same_tup q1.sub hl⟩, k _ H1 Hs1 q1 s1 (yl_enumT hl hd)⟩⟩
      | _ => cases h
end
theorem kpi_enumA {X : Cx} {K : PySem.W.Frag} (hK : X.K = K) {e : Expr} {ta : TA} {p pos tpos : Pos} {elts : List Expr} {kk : Nat} (hg : Gl X "enumerate") (hm : X.mg "enumerate" = none) (ha : PA X [e] ta) (hs : starEach [e] X.env = [(false, eval e X.env)] := by rfl) :
    PI X (.Tuple elts kk tpos) (.Call (.Name "enumerate" p) [e] [] pos) (iEnumA K ta) := hK ▸ pi_enumA hg hm ha hs
end Bk
namespace Bk
open PySem L2 PySem.Builtin PySem.Spec PyProof.Rows
/-- a list (k) or a tuple -/
def SqK (K : PySem.W.Frag) (k : Bool) (a : Addr) (H : Hp) (xs : List V) : Prop := match k with
  | true => SqL K H a xs
  | false => SqT K H a xs
def ItK (k : Bool) (it a : Addr) (i : Nat) (h : Heap) : Prop := match k with
  | true => h.IsListIter it a i
  | false => h.IsTupleIter it a i
def InK (k : Bool) (a : Addr) (its : Array Value) (h : Heap) : Prop := match k with
  | true => h.IsList a its
  | false => h.IsTuple a its
def obK (k : Bool) (a : Addr) : Obj := match k with
  | true => { cls := .type "list_iterator", data := .fields #[.ref a, .int 0 0] }
  | false => { cls := .type "tuple_iterator", data := .fields #[.ref a, .int 0 0] }
theorem draws_k {prog : Program} {w : World} {A : Around} (hh : A.handled = none) (k : Bool) (it a : Addr) (hne : a ≠ it) (its : Array Value) : Draws prog w A it [it, a] its.size (fun i v => its[i]? = some v) (fun i h => ItK k it a i h ∧ InK k a its h) := by
  cases k
  · exact Draws.tuple hh it a hne its
  · exact Draws.list hh it a hne its
theorem drawsL_end {prog : Program} {w : World} {A : Around} (hh : A.handled = none) (it t : Addr) (items : Array Value) (i : Nat) (hi : items.size ≤ i) :
    Draws prog w A it [it, t] i (fun _ _ => True) (fun j h => (h.IsListIter it t j ∧ h.IsList t items) ∧ j = i) where
  live := fun _ _ st => st.1.1.elim fun o ho => ⟨o, ho.1⟩
  frame := fun _ _ _ st hk => ⟨⟨st.1.1.at fun o e => hk it (by simp) o e, st.1.2.at fun o e => hk t (by simp) o e⟩, st.2⟩
  item := fun j s Q E hj st hQ => absurd st.2 (Nat.ne_of_lt hj)
  done := fun s Q E st hE => wpAny_nextOf_list_end hh st.1.1 st.1.2 (Array.getElem?_eq_none hi) hE
theorem draws_stop {prog : Program} {w : World} {A : Around} (hh : A.handled = none) (k : Bool) (it a : Addr) (hne : a ≠ it) (its : Array Value) (i : Nat) {h : Heap} (h1 : ItK k it a i h) (h2 : InK k a its h) :
    ∃ n P St, Draws prog w A it [it, a] n P St ∧ St i h ∧ i ≤ n ∧ (its.size ≤ i → i = n) := by
  by_cases hi : its.size ≤ i
  · cases k
    · exact ⟨_, _, _, draws_end hh it a its i hi, ⟨⟨h1, h2⟩, rfl⟩, Nat.le_refl _, fun _ => rfl⟩
    · exact ⟨_, _, _, drawsL_end hh it a its i hi, ⟨⟨h1, h2⟩, rfl⟩, Nat.le_refl _, fun _ => rfl⟩
  · exact ⟨_, _, _, draws_k hh k it a hne its, ⟨h1, h2⟩, by omega, fun z => absurd z hi⟩
theorem begins_k (k : Bool) (a : Addr) (its : Array Value) : Begins (.ref a) (obK k a) (InK k a its) := by
  cases k
  · exact begins_tuple a its
  · exact begins_list a its
theorem itk_obj {k : Bool} {it a : Addr} {i : Nat} {h : Heap} (h1 : ItK k it a i h) : ∃ o, h.get? it = some o ∧ ∀ v, o.data ≠ .cell v := by
  cases k
  · obtain ⟨o, e, _, d⟩ := h1
    exact ⟨o, e, fun v q => by rw [d] at q; cases q⟩
  · obtain ⟨o, e, _, d⟩ := h1
    exact ⟨o, e, fun v q => by rw [d] at q; cases q⟩
theorem ItK.at {k : Bool} {it a : Addr} {i : Nat} {h h' : Heap} (h1 : ItK k it a i h) (hk : ∀ o, h.get? it = some o → h'.get? it = some o) : ItK k it a i h' := by
  cases k
  · exact Heap.IsTupleIter.at h1 hk
  · exact Heap.IsListIter.at h1 hk
theorem itk_new {k : Bool} {it a : Addr} {h : Heap} (e : h.get? it = some (obK k a)) : ItK k it a 0 h := by
  cases k
  · exact ⟨_, e, rfl, rfl⟩
  · exact ⟨_, e, rfl, rfl⟩
section
variable {X : Cx} {pins : List (Addr × Obj)} {σ : L2.St} {H : Hp} {s : Shared} {k : Bool} {a : Addr} {xs ys : List V}
theorem inv_k (I : Inv X pins σ H s) (h : SqK X.K k a H xs) : ∃ its : List Value, Vals xs its ∧ InK k a its.toArray s.heap ∧ a < s.heap.objs.size := by
  cases k
  · obtain ⟨its, r, p, _⟩ := I.tuple h
    exact ⟨its, r, show s.heap.IsTuple a its.toArray from p, by obtain ⟨o, e, _⟩ := p; exact Heap.lt_size e⟩
  · obtain ⟨its, r, p, _⟩ := I.list h
    exact ⟨its, r, p.isList, p.lt⟩
theorem inj_k (I : Inv X pins σ H s) (h : SqK X.K k a H xs) (h' : SqK X.K k a H ys) : xs = ys := by
  cases k
  · exact I.tuple_inj h h'
  · exact I.list_inj h h'
end
def ItZ (K : PySem.W.Frag) (k l : Bool) (a b : Addr) : It :=
  ⟨fun i H => ∃ (xs ys : List V) (x y : V), SqK K k a H xs ∧ SqK K l b H ys ∧ xs[i]? = some x ∧ ys[i]? = some y,
    fun i H v H' => ∃ T x y, v = .ref T ∧ H T = none ∧ H' = upd H T (.tup [x, y]) ∧ (∀ xs, SqK K k a H xs → xs[i]? = some x) ∧ ∀ ys, SqK K l b H ys → ys[i]? = some y,
    fun i H => ∃ xs ys : List V, SqK K k a H xs ∧ SqK K l b H ys ∧ (xs.length ≤ i ∨ ys.length ≤ i)⟩
theorem turn_zipK {P : Program} {w : World} {K : PySem.W.Frag} {elts : List Expr} {kk : Nat} {tpos : Pos} {k l : Bool} {a b z TI TO i1 i2 : Addr} (D : ZipSep2 z TI TO i1 i2 [i1, a] [i2, b]) (ha : a ≠ i1) (hb : b ≠ i2) :
    Turn P w K (.Tuple elts kk tpos) (ItZ K k l a b) [z, TI, TO, i1, i2] z (fun i h => IsZip h z TI TO .none ∧ IsTupOf2 h TI (.ref i1) (.ref i2) ∧ (∃ x y, IsTupOf2 h TO x y) ∧ ItK k i1 a i h ∧ ItK l i2 b i h) where
  mem := by simp
  obj := fun i h st c hc => by
    obtain ⟨hz, hTI, ⟨x, y, hTO⟩, h1, h2⟩ := st
    have ec : c = z ∨ c = TI ∨ c = TO ∨ c = i1 ∨ c = i2 := by simpa using hc
    rcases ec with rfl | rfl | rfl | rfl | rfl
    · exact ⟨_, hz, fun v q => nomatch q⟩
    · exact ⟨_, hTI, fun v q => nomatch q⟩
    · exact ⟨_, hTO, fun v q => nomatch q⟩
    · exact itk_obj h1
    · exact itk_obj h2
  keep := fun i h h' st kp => by
    obtain ⟨hz, hTI, ⟨x, y, hTO⟩, h1, h2⟩ := st
    exact ⟨kp z (by simp) _ hz, kp TI (by simp) _ hTI, ⟨x, y, kp TO (by simp) _ hTO⟩, h1.at fun o q => kp i1 (by simp) o q, h2.at fun o q => kp i2 (by simp) o q⟩
  item := by
    intro X hP hw hK hc i pins s σ H E I hf st hg
    subst hP hw hK
    obtain ⟨hz, hTI, ⟨x0, y0, hTO⟩, h1, h2⟩ := st
    obtain ⟨xs, ys, x, y, qx, qy, hx, hy⟩ := hg
    obtain ⟨its, rv, p, _⟩ := inv_k I qx
    obtain ⟨its2, rv2, p2, _⟩ := inv_k I qy
    obtain ⟨u, hu, ru⟩ := rv.get hx
    obtain ⟨u2, hu2, ru2⟩ := rv2.get hy
    have hlt : i < its.toArray.size := by simpa using (List.getElem?_eq_some_iff.mp hu).1
    have hlt2 : i < its2.toArray.size := by simpa using (List.getElem?_eq_some_iff.mp hu2).1
    have hzl : z < s.heap.objs.size := Heap.lt_size hz
    have lts : ∀ c ∈ [z, TI, TO, i1, i2], c < s.heap.objs.size := fun c hcm => by
      have ec : c = z ∨ c = TI ∨ c = TO ∨ c = i1 ∨ c = i2 := by simpa using hcm
      rcases ec with rfl | rfl | rfl | rfl | rfl
      · exact hzl
      · exact Heap.lt_size hTI
      · exact Heap.lt_size hTO
      · obtain ⟨_, e1, _⟩ := itk_obj h1; exact Heap.lt_size e1
      · obtain ⟨_, e2, _⟩ := itk_obj h2; exact Heap.lt_size e2
    refine wpAny_pyNext_zipD2_item D (draws_k (A := X.A.in1) (I.ok.hd hc) k i1 a ha its.toArray) (draws_k (A := X.A.in1) (I.ok.hd hc) l i2 b hb its2.toArray) hz hTI hTO ⟨h1, p⟩ ⟨h2, p2⟩ hlt hlt2 fun v1 v2 h' tk e1 e2 z' TO' st1 st2 hT hsz hk => ?_
    have ev1 : v1 = u := by
      have q : its[i]? = some v1 := by simpa using e1
      rw [hu] at q; cases q; rfl
    have ev2 : v2 = u2 := by
      have q : its2[i]? = some v2 := by simpa using e2
      rw [hu2] at q; cases q; rfl
    subst ev1 ev2
    refine ⟨_, rfl, wpAny_letOwnedTupleGo_zip (s := { s with heap := h', toks := tk }) z' fun h'' z'' sb => ?_⟩
    have hT2 : h''.get? s.heap.objs.size = some { cls := .type "tuple", data := .seq #[v1, v2] } := (sb.2 _ (Nat.ne_of_gt hzl)).trans hT
    have new : ObjOk X.prog X.w (upd H s.heap.objs.size (.tup [x, y])) h'' s.heap.objs.size (.tup [x, y]) := ⟨by show 2 ≤ sizeLine; decide, [v1, v2], .cons ru (.cons ru2 .nil), ⟨_, hT2, rfl, _, rfl⟩⟩
    have I1 : Inv X pins σ (upd H s.heap.objs.size (.tup [x, y])) { s with heap := h'', toks := tk } :=
      I.turnedNew (ch := [z, TI, TO, i1, i2]) (fun c o hcb q => (sb.2 c (fun q' => hcb (by simp [q']))).trans (hk c o (fun q' => hcb (by simp [q'])) (fun q' => hcb (by simp [q'])) (fun q' => hcb (by simp [q'])) (fun q' => hcb (by simp [q'])) q)) hf (Nat.le_refl _) new
    have n1 : i1 ≠ z := fun q => D.zf1 (q ▸ D.mem1)
    have n2 : i2 ≠ z := fun q => D.zf2 (q ▸ D.mem2)
    refine ⟨.ref s.heap.objs.size, _, I1, rfl, ⟨_, x, y, rfl, I.hok.fresh (Nat.le_refl _), rfl, fun l' hl => by rw [inj_k I hl qx]; exact hx, fun l' hl => by rw [inj_k I hl qy]; exact hy⟩, ⟨z'', ?_, ⟨v1, v2, (sb.2 _ D.TOz).trans TO'⟩, st1.1.at fun o q => (sb.2 _ n1).trans q, st2.1.at fun o q => (sb.2 _ n2).trans q⟩, fun c hcm => ?_⟩
    · exact (sb.2 _ D.TIz).trans (hk _ _ D.TIz D.TITO D.TIi1 D.TIi2 hTI)
    · rw [upd_ne (Nat.ne_of_lt (lts c hcm))]
      exact (hf c hcm).1
  done := by
    intro X hP hw hK hc i pins s σ H E I hf st hg
    subst hP hw hK
    obtain ⟨hz, hTI, ⟨x0, y0, hTO⟩, h1, h2⟩ := st
    obtain ⟨xs, ys, qx, qy, hend⟩ := hg
    obtain ⟨its, rv, p, _⟩ := inv_k I qx
    obtain ⟨its2, rv2, p2, _⟩ := inv_k I qy
    have l1 := rv.length
    have l2 := rv2.length
    obtain ⟨n1, P1, St1, D1, s1, le1, e1⟩ := draws_stop (prog := X.prog) (w := X.w) (A := X.A.in1) (I.ok.hd hc) k i1 a ha its.toArray i h1 p
    obtain ⟨n2, P2, St2, D2, s2, le2, e2⟩ := draws_stop (prog := X.prog) (w := X.w) (A := X.A.in1) (I.ok.hd hc) l i2 b hb its2.toArray i h2 p2
    exact wpAny_pyNext_zipD2_end D D1 D2 hz hTI hTO s1 s2 le1 le2 (by
      rcases hend with q | q
      · exact .inl (e1 (by simp; omega))
      · exact .inr (e2 (by simp; omega))) fun h' tk hk => ⟨rfl, I.turnedL (ch := [z, TI, TO, i1, i2]) (fun c o hcb q => hk c o (fun q' => hcb (by simp [q'])) (fun q' => hcb (by simp [q'])) (fun q' => hcb (by simp [q'])) (fun q' => hcb (by simp [q'])) q) hf⟩
  self := fun A i s Q E st h => wpAny_pyIter_zip st.1 h
def iZipA (K : PySem.W.Frag) (ta : TA) : TI := fun σ H R => ta σ H fun vs H1 => ∃ k l a b xs ys, vs = [.ref a, .ref b] ∧ SqK K k a H1 xs ∧ SqK K l b H1 ys ∧ R (ItZ K k l a b) H1
theorem pi_zipA {X : Cx} {e e2 : Expr} {ta : TA} {p pos tpos : Pos} {elts : List Expr} {kk : Nat} (hg : Gl X "zip") (hm : X.mg "zip" = none) (ha : PA X [e, e2] ta)
    (hs : starEach [e, e2] X.env = (false, eval e X.env) :: starEach [e2] X.env := by rfl) (hpl : (backTo pos (starEach [e2] X.env)).any (·.1) = false := by rfl) :
    PI X (.Tuple elts kk tpos) (.Call (.Name "zip" p) [e, e2] [] pos) (iZipA X.K ta) := by
  refine ⟨fun pins s σ H R I h => Call_ (ld_blt I hg hm PyProof.Rows.boot_zip (callWith_type1 (thn (ha.run pos pins s σ H _ I h) fun us s1 ⟨vs, H1, I1, r1, k, l, a, b, xs, ys, ex, qx, qy, q⟩ => ?_) hs hpl))⟩
  subst ex
  cases r1 with
  | cons r rr =>
    cases rr with
    | cons r' rr =>
      cases rr
      cases r
      cases r'
      obtain ⟨its, rv, p1, la⟩ := inv_k I1 qx
      obtain ⟨its2, rv2, p2, lb⟩ := inv_k I1 qy
      refine zip_begins2 (begins_k k a its.toArray) (begins_k l b its2.toArray) p1 p2 fun h' hz hTI hTO h1 h2 hsz hk => wpAny_pyIter_zip hz ?_
      have sep := zip_sep2 (N := s1.heap.objs.size) (fp1 := [a]) (fp2 := [b]) (by simpa using la) (by simpa using lb)
      refine ⟨_, _, _, _, H1, rfl, I1.kept (t' := s1.toks) hk, turn_zipK sep (Nat.ne_of_lt la) (Nat.ne_of_lt (Nat.lt_succ_of_lt lb)), ⟨hz, hTI, ⟨_, _, hTO⟩, itk_new h1, itk_new h2⟩, fun c hcm => ?_, q⟩
      have ec : c = s1.heap.objs.size + 4 ∨ c = s1.heap.objs.size + 2 ∨ c = s1.heap.objs.size + 3 ∨ c = s1.heap.objs.size ∨ c = s1.heap.objs.size + 1 := by simpa using hcm
      have hle : s1.heap.objs.size ≤ c := by
        rcases ec with rfl | rfl | rfl | rfl | rfl
        · exact Nat.le_add_right _ _
        · exact Nat.le_add_right _ _
        · exact Nat.le_add_right _ _
        · exact Nat.le_refl _
        · exact Nat.le_add_right _ _
      exact I1.fpOk hle (I1.hok.fresh hle)
theorem kpi_zipA {X : Cx} {K : PySem.W.Frag} (hK : X.K = K) {e e2 : Expr} {ta : TA} {p pos tpos : Pos} {elts : List Expr} {kk : Nat} (hg : Gl X "zip") (hm : X.mg "zip" = none) (ha : PA X [e, e2] ta)
    (hs : starEach [e, e2] X.env = (false, eval e X.env) :: starEach [e2] X.env := by rfl) (hpl : (backTo pos (starEach [e2] X.env)).any (·.1) = false := by rfl) :
    PI X (.Tuple elts kk tpos) (.Call (.Name "zip" p) [e, e2] [] pos) (iZipA K ta) := hK ▸ pi_zipA hg hm ha hs hpl
section
variable {K : PySem.W.Frag}
theorem same_k {k : Bool} {a : Addr} {H H' : Hp} {xs : List V} (s : Same H H') (h : SqK K k a H xs) : SqK K k a H' xs := by
  cases k
  · exact same_tup s h
  · exact same_lst s h
theorem seqD_ok {H : Hp} {v : V} {d : D} {ds : List D} (h : DR K H v d) (e : seqD d = some ds) : ∃ k a xs, v = .ref a ∧ SqK K k a H xs ∧ DRs K H xs ds := by
  cases d with
  | tup xs =>
    cases e
    cases h with
    | tup hl hd => exact ⟨false, _, _, rfl, hl, hd⟩
  | lst xs => obtain ⟨a, vs, z, hl, hd⟩ := asL_ok h e; exact ⟨true, a, vs, z, hl, hd⟩
  | frz xs => obtain ⟨a, vs, z, hl, hd⟩ := asL_ok h e; exact ⟨true, a, vs, z, hl, hd⟩
  | _ => cases e
theorem yl_zipA {Hs : Hp} {k l : Bool} {a b : Addr} {xs ys : List V} {ds es : List D} (ha : SqK K k a Hs xs) (hb : SqK K l b Hs ys) (da : DRs K Hs xs ds) (db : DRs K Hs ys es) : Yl K (ItZ K k l a b) ((ds.zip es).map fun p => .tup [p.1, p.2]) Hs where
  go := fun i H s hi => by
    rw [List.length_map, List.length_zip] at hi
    exact ⟨xs, ys, xs[i]'(by rw [da.len]; omega), ys[i]'(by rw [db.len]; omega), same_k s ha, same_k s hb, by simp, by simp⟩
  stop := fun i H s hi => by
    rw [List.length_map, List.length_zip] at hi
    exact ⟨xs, ys, same_k s ha, same_k s hb, by rw [da.len, db.len]; omega⟩
  yld := fun i x H H' Hs1 _ s s1 y => by
    obtain ⟨T, x1, y1, rfl, hT, rfl, h1, h2⟩ := y
    obtain ⟨d1, e1, r1⟩ := da.ta (h1 xs (same_k (s.trans s1) ha))
    obtain ⟨d2, e2, r2⟩ := db.ta (h2 ys (same_k (s.trans s1) hb))
    have ex : Ext H Hs1 (upd H T (.tup [x1, y1])) (upd Hs1 T (.tup [x1, y1])) := Ext.new s1 hT
    refine ⟨.tup [d1, d2], _, ?_, ex, .tup (SqT.of upd_same) (.cons (r1.mono (s.trans ex.b)) (.cons (r2.mono (s.trans ex.b)) .nil))⟩
    rw [List.getElem?_map, zip_get e1 e2]
    rfl
def xzipA (a : M (List D)) : M (List D) := fun G => bd (a G) fun xs G1 => match xs with
  | [x, y] => match seqD x, seqD y with
    | some ds, some es => some ((ds.zip es).map fun p => .tup [p.1, p.2], G1)
    | _, _ => none
  | _ => none
theorem ik_zipA {ta : TA} {a : M (List D)} (ha : AOk K ta a) : IOk K (iZipA K ta) (xzipA a) := fun Fz ba G σ H Hs ds G' q e Q k => by
  obtain ⟨xs, G1, e1, e⟩ := bd_inv e
  refine ha Fz ba G σ H Hs xs _ q e1 _ fun vs H1 Hs1 q1 s1 d => ?_
  split at e
  case h_2 => cases e
  split at e
  case h_2 => cases e
  rename_i h1 h2
  cases e
  cases d with
  | cons d1 d2 =>
    cases d2 with
    | cons d2 d3 =>
      cases d3
      obtain ⟨k1, a1, x1, rfl, l1, r1⟩ := seqD_ok d1 h1
      obtain ⟨k2, a2, x2, rfl, l2, r2⟩ := seqD_ok d2 h2
      exact ⟨k1, k2, a1, a2, x1, x2, rfl, same_k q1.sub l1, same_k q1.sub l2, k _ H1 Hs1 q1 s1 (yl_zipA l1 l2 r1 r2)⟩
end
end Bk
namespace Bk
open PySem L2
theorem cAttrs_nd (c : Nat) : (cAttrs c).Nodup := by
  match c with
  | 0 => decide +kernel
  | 1 => decide +kernel
  | 2 => decide +kernel
  | 3 => decide +kernel
  | 4 => decide +kernel
  | n + 5 => show (cAttrs 5).Nodup; decide +kernel
section
variable {K : PySem.W.Frag} {H : Hp}
theorem fs_get : ∀ {fs : List (PySem.Str × V)} {i : Nat} {v : V}, (fs.map (·.1)).Nodup → (fs.map (·.2))[i]? = some v → ∀ f, (fs.map (·.1))[i]? = some f → fs.lookup f = some v
  | [], _, _, _, h, _, _ => by simp at h
  | (g, x) :: r, 0, _, _, h, f, e => by
    simp at h e
    subst h e
    simp [List.lookup]
  | (g, x) :: r, i + 1, v, nd, h, f, e => by
    simp only [List.map_cons, List.getElem?_cons_succ] at h e
    rw [List.map_cons, List.nodup_cons] at nd
    have hne : f ≠ g := fun z => nd.1 (z ▸ List.mem_of_getElem? e)
    have hb : (f == g) = false := beq_eq_false_iff_ne.mpr hne
    show List.lookup f ((g, x) :: r) = some v
    simp only [List.lookup, hb]
    exact fs_get nd.2 h f e
theorem putF_old : ∀ {fs : List (PySem.Str × V)} {i : Nat} {f : PySem.Str} {v : V}, (fs.map (·.1)).Nodup → (fs.map (·.1))[i]? = some f → (putF f v fs).map (·.1) = fs.map (·.1) ∧ (putF f v fs).map (·.2) = (fs.map (·.2)).set i v
  | [], _, _, _, _, h => by simp at h
  | (g, x) :: r, 0, f, v, _, h => by
    simp at h
    subst h
    simp only [putF, if_true]
    exact ⟨rfl, rfl⟩
  | (g, x) :: r, i + 1, f, v, nd, h => by
    simp only [List.map_cons, List.getElem?_cons_succ] at h
    rw [List.map_cons, List.nodup_cons] at nd
    have hne : g ≠ f := fun z => nd.1 (z ▸ List.mem_of_getElem? h)
    simp only [putF, if_neg hne]
    obtain ⟨i1, i2⟩ := putF_old (v := v) nd.2 h
    exact ⟨by rw [List.map_cons, i1]; rfl, by rw [List.map_cons, i2]; rfl⟩
theorem putF_new : ∀ {fs : List (PySem.Str × V)} {f : PySem.Str} {v : V}, f ∉ fs.map (·.1) → (putF f v fs).map (·.1) = fs.map (·.1) ++ [f] ∧ (putF f v fs).map (·.2) = fs.map (·.2) ++ [v]
  | [], _, _, _ => ⟨rfl, rfl⟩
  | (g, x) :: r, f, v, h => by
    rw [List.map_cons, List.mem_cons, not_or] at h
    simp only [putF, if_neg (fun z : g = f => h.1 z.symm)]
    obtain ⟨i1, i2⟩ := putF_new (v := v) h.2
    exact ⟨by rw [List.map_cons, i1]; rfl, by rw [List.map_cons, i2]; rfl⟩
theorem take_nd {c n : Nat} : ((cAttrs c).take n).Nodup := List.Nodup.sublist (List.take_sublist _ _) (cAttrs_nd c)
theorem take_at {c n i : Nat} {f : PySem.Str} (h : (cAttrs c)[i]? = some f) (hi : i < n) : ((cAttrs c).take n)[i]? = some f := by
  rw [List.getElem?_take, if_pos hi]
  exact h
/-- what is known of a class of the text -/
structure ClT (K : PySem.W.Frag) (mg : PySem.Str → Option Value) (c : Nat) where
  C : Addr
  mg : mg (cName c) = some (.ref C)
  at_ : CAt K c C
  cls : Cls K C
  na : ∀ f ∈ cAttrs c, NoAttr K C f
variable {mg : PySem.Str → Option Value}
/-- o.f, the i-th attribute of an instance of the class c -/
def xfld (c i : Nat) (a : M R) : M R := fun G => bd (a G) fun x G1 => match x.d with
  | .obj c' ds => if c' = c then (match ds[i]? with | some d => some (.im d, G1) | none => none) else none
  | _ => none
theorem gk_fld {c i : Nat} {f : PySem.Str} (T : ClT K mg c) (hf : (cAttrs c)[i]? = some f) {ta : TE} {a : M R} (ha : GOk K ta a) : GOk K (tFld K ta f) (xfld c i a) := fun Fz ba G σ H Hs res G' q e0 Q k => by
  obtain ⟨x, G1, e1, e⟩ := bd_inv e0
  refine ha.im q e1 fun v H1 Hs1 q1 s1 d1 => ?_
  cases hd : x.d with
  | obj c' ds =>
    rw [hd] at e d1
    simp only at e
    split at e
    case isFalse => cases e
    rename_i hc
    subst hc
    split at e
    case h_2 => cases e
    rename_i d hi
    cases e
    cases d1 with
    | obj hC hH hn hv hs =>
      subst hv
      cases hC.eq T.at_
      obtain ⟨w, w1, w2⟩ := hs.at hi
      have hlt : i < ds.length := (List.getElem?_eq_some_iff.mp hi).1
      refine ⟨_, _, _, _, w, rfl, q1.sub _ _ hH, T.cls, T.na f (List.mem_of_getElem? hf), fs_get ?_ w1 f ?_, k w H1 Hs1 q1 s1 w2⟩
      · rw [hn]; exact take_nd
      · rw [hn]; exact take_at hf hlt
  | _ => rw [hd] at e; cases e
/-- the i-th attribute of the instance that the name owns -/
def xfldv (j c i : Nat) : M R := fun G => match G[j]? with
  | some e => match e.mu with
    | some (.o c' ds) => if c' = c then (match ds[i]? with | some d => some (.im d, G) | none => none) else none
    | _ => none
  | none => none
theorem gk_fldv {j c i : Nat} {f : PySem.Str} (T : ClT K mg c) (hf : (cAttrs c)[i]? = some f) : GOk K (tFld K (tVar j) f) (xfldv j c i) := fun Fz ba G σ H Hs res G' q e Q k => by
  unfold xfldv at e
  cases h : G[j]? with
  | none => simp only [h] at e; cases e
  | some en =>
    cases h0 : en.mu with
    | none => simp only [h, h0] at e; cases e
    | some mm =>
     cases mm with
     | l _ => simp only [h, h0] at e; cases e
     | o c' ds =>
      simp only [h, h0] at e
      split at e
      case isFalse => cases e
      rename_i hc
      subst hc
      split at e
      case h_2 => cases e
      rename_i d hi
      cases e
      obtain ⟨l, o, g1, g2, g3, g4, C, dx, fs, hC, rfl, hn, hs⟩ := q.mu j en _ h h0
      cases hC.eq T.at_
      obtain ⟨w, w1, w2⟩ := hs.at hi
      have hlt : i < ds.length := (List.getElem?_eq_some_iff.mp hi).1
      refine ⟨_, g1, _, _, _, _, w, rfl, g2, T.cls, T.na f (List.mem_of_getElem? hf), fs_get ?_ w1 f ?_, k w H Hs q (Same.refl _) w2⟩
      · rw [hn]; exact take_nd
      · rw [hn]; exact take_at hf hlt
/-- the i-th attribute stored -/
def putO (i : Nat) (x : D) (ds : List D) : Option (List D) := if i < ds.length then some (ds.set i x) else if i = ds.length then some (ds ++ [x]) else none
def putA (j c i : Nat) (x : D) (G : Gam) : Option Gam := match G[j]? with
  | some e => match e.mu with
    | some (.o c' ds) => if c' = c then (match putO i x ds with | some es => some (G.set j (e.with (.o c es))) | none => none) else none
    | _ => none
  | none => none
theorem cAttrs_few (c : Nat) : (cAttrs c).length ≤ 6 := by
  match c with
  | 0 => decide
  | 1 => decide
  | 2 => decide
  | 3 => decide
  | 4 => decide
  | n + 5 => show (cAttrs 5).length ≤ 6; decide
theorem putA_ok {j c i : Nat} {f : PySem.Str} (T : ClT K mg c) (hf : (cAttrs c)[i]? = some f) {Fz : Hp} {ba : Nat → Addr} {G G' : Gam} {σ : L2.St} {H Hs : Hp} {v : V} {d : D} (q : Rel K Fz ba G σ H Hs) (hd : DR K Hs v d) (e : putA j c i d G = some G') :
    ∃ a dx fs, σ[j]? = some (some (.ref a)) ∧ H a = some (.ins T.C dx fs) ∧ fs.length < 1000 ∧ Rel K Fz ba G' σ (upd H a (.ins T.C dx (putF f v fs))) Hs := by
  unfold putA at e
  cases h : G[j]? with
  | none => simp only [h] at e; cases e
  | some en =>
    cases h0 : en.mu with
    | none => simp only [h, h0] at e; cases e
    | some mm =>
     cases mm with
     | l _ => simp only [h, h0] at e; cases e
     | o c' ds =>
      simp only [h, h0] at e
      split at e
      case isFalse => cases e
      rename_i hc
      subst hc
      split at e
      case h_2 => cases e
      rename_i es hp
      cases e
      obtain ⟨l, o, g1, g2, g3, g4, C, dx, fs, hC, rfl, hn, hs⟩ := q.mu j en _ h h0
      cases hC.eq T.at_
      have hlen : fs.length = ds.length := by
        have z := hs.len
        rw [List.length_map] at z
        exact z
      have hi6 : (cAttrs c').length ≤ 6 := cAttrs_few c'
      have hle : ds.length ≤ 6 := by
        have z := congrArg List.length hn
        rw [List.length_map, List.length_take, hlen] at z
        omega
      refine ⟨l, dx, fs, g1, g2, by omega, ?_⟩
      have hiA : i < (cAttrs c').length := (List.getElem?_eq_some_iff.mp hf).1
      refine q.mut h h0 g1 (extB_upd q.sub g3) upd_same g3 ⟨_, dx, putF f v fs, hC, rfl, ?_⟩
      unfold putO at hp
      have nd : (fs.map (·.1)).Nodup := by rw [hn]; exact take_nd
      split at hp
      · rename_i hlt
        cases hp
        obtain ⟨p1, p2⟩ := putF_old (v := v) nd (by rw [hn]; exact take_at hf hlt)
        rw [p1, p2, List.length_set]
        exact ⟨hn, DRs.set hd i hs⟩
      · split at hp
        case isFalse => cases hp
        rename_i hlt heq
        cases hp
        have hnew : f ∉ fs.map (·.1) := by
          rw [hn]
          intro hm
          obtain ⟨j', hj⟩ := List.mem_iff_getElem?.mp hm
          have hj1 : j' < ds.length := by
            have z := (List.getElem?_eq_some_iff.mp hj).1
            rw [List.length_take] at z
            omega
          rw [List.getElem?_take, if_pos hj1] at hj
          have hj2 := (List.getElem?_eq_some_iff.mp hj)
          have hf2 := (List.getElem?_eq_some_iff.mp hf)
          obtain ⟨a1, a2⟩ := hj2
          obtain ⟨b1, b2⟩ := hf2
          have z : j' = i := (List.getElem_inj (cAttrs_nd c')).mp (a2.trans b2.symm)
          omega
        obtain ⟨p1, p2⟩ := putF_new (v := v) hnew
        rw [p1, p2]
        refine ⟨?_, hs.app (.cons hd .nil)⟩
        rw [hn, List.length_append, List.length_singleton, List.take_succ, ← heq, hf]
        rfl
def xsetf (j c i : Nat) (a : M R) : MS := fun G => bd (a G) fun x G1 => match putA j c i x.d G1 with
  | some G2 => some (.nx, G2)
  | none => none
theorem sk_setf {j c i : Nat} {f : PySem.Str} (T : ClT K mg c) (hf : (cAttrs c)[i]? = some f) {ta : TE} {a : M R} (ha : GOk K ta a) : SOk K (sFld K (tVar j) ta f) (xsetf j c i a) := fun Fz ba G σ H Hs fl G' q e Dn p => by
  obtain ⟨x, G1, e1, e⟩ := bd_inv e
  cases h : putA j c i x.d G1 with
  | none => rw [h] at e; cases e
  | some G2 =>
    rw [h] at e
    cases e
    refine ha.im q e1 fun v H1 Hs1 q1 s1 d1 => ?_
    obtain ⟨b, dx, fs, g1, g2, g3, g4⟩ := putA_ok T hf q1 d1 h
    exact ⟨_, g1, b, T.C, dx, fs, rfl, g2, T.cls, T.na f (List.mem_of_getElem? hf), g3, p σ _ Hs1 g4 s1⟩
end
end Bk
namespace Bk
open PySem L2
section
variable {X : Cx} {CX : CXT} {k : Nat} {C g : Addr} {fd : FuncData} {ps : List PySem.Str} {sp : Sp} {E : XK}
/-- isinstance(x, a tuple of types), the tuple known in any way -/
def rIsiS (K : PySem.W.Frag) : List V → Hp → VK → Prop := fun xs H Q => ∃ (x : V) (tp : Addr) (cs : List V) (t : Value) (us : List Value) (b : Bool), xs = [x, .ref tp] ∧ SqT K H tp cs ∧ Paired ClsV cs us ∧ TyX K H x t ∧ PySem.W.kitAny K t us = some b ∧ Q (.bl b) H
theorem cr_isiS : CallR X (.builtin "isinstance") (rIsiS X.K) := by
  intro pins s σ H xs us Q I r h
  obtain ⟨x, tp, cs, t, ws, b, rfl, hT, kk, ty, e, q⟩ := h
  obtain ⟨u1, u2, rfl, r1, r2⟩ := vals2 r
  cases (show u2 = Value.ref tp from r2)
  obtain ⟨P, Z, p, hx⟩ := kit_of I r1 ty
  obtain ⟨its, rv, ⟨⟨oc, od, dt, sl⟩, h1, h2, n, h3⟩, _⟩ := I.tuple hT
  have e3 := ClsV.all kk rv
  subst e3
  simp only at h2 h3
  subst h2 h3
  exact PySem.W.kia_tup Z I.kIn p h1 e hx fun tk => ⟨.bl b, H, I.tok tk, rfl, q⟩
end
section
variable {K : PySem.W.Frag} {mg : PySem.Str → Option Value}
def xmake (c : Nat) (m : Mob → List D → Option (R × Mob)) (dds : List D) (a : M (List D)) : M R := fun G => bd (a G) fun xs G1 => match m (.o c []) (xs ++ dds) with
  | some (.im .non, m') => some (.ow m', G1)
  | _ => none
theorem gk_make {c : Nat} {m : Mob → List D → Option (R × Mob)} {dds : List D} {dvs : List V} {E : XK} (T : ClT K mg c) (hd : ∀ H, DRs K H dvs dds) {ta : TA} {a : M (List D)} (ha : AOk K ta a) : GOk K (tMake T.C (spB K m) dvs E ta) (xmake c m dds a) := fun Fz ba G σ H Hs res G' q e0 Q k => by
  obtain ⟨xs, G1, e1, e⟩ := bd_inv e0
  split at e
  case h_2 => cases e
  rename_i m' hm
  cases e
  refine ha Fz ba G σ H Hs xs _ q e1 _ fun vs H1 Hs1 q1 s1 d1 x dx hx hdx hne => ?_
  have sm : Same H1 (upd (upd H1 dx (.own x)) x (.ins T.C dx [])) := fun b o hb => by
    rw [upd_ne (ne_of_none hb hx), upd_ne (ne_of_none hb hdx)]
    exact hb
  refine ⟨Hs1, x, vs ++ dvs, _, .o c [], xs ++ dds, .im .non, m', rfl, q1.sub.trans sm, upd_same, none_sub q1.sub hx, ⟨T.C, dx, [], T.at_, rfl, rfl, .nil⟩, d1.app (hd _), hm, fun v H2 Hs2 o2 ex hl hn hd2 rf => ?_⟩
  refine ⟨by cases rf; rfl, ?_⟩
  have ex2 : Ext H1 Hs1 H2 Hs2 := ⟨fun b o hb => ex.a b o (ne_of_none hb hx) (sm b o hb), ex.b, ex.c, fun b o hb hnb => ex.n b o (sm b o hb) hnb⟩
  have rf2 : ResF K H1 H2 Hs2 (.ref x) (.ow m') := ⟨x, o2, rfl, hx, hl, hn, hd2⟩
  exact k _ H2 Hs2 (q1.ext ex2) (s1.trans ex.b) (rf2.res q1)
def tyL : List D → Option (List String)
  | [] => some []
  | .ty b :: r => (tyL r).map fun l => b :: l
  | _ :: _ => none
def isiL (a : String) : List String → Option Bool
  | [] => some false
  | b :: r => match isiT a b with
    | some true => some true
    | some false => isiL a r
    | none => none
theorem tyL_ok {H : Hp} : ∀ {ds : List D} {vs : List V} {l : List String}, DRs K H vs ds → tyL ds = some l → Paired ClsV vs (l.map Value.type)
  | [], _, _, h, e => by cases h; cases e; exact .nil
  | d :: ds, _, l, h, e => by
    cases h with
    | cons h1 h2 =>
      cases d with
      | ty b =>
        cases h1
        unfold tyL at e
        cases z : tyL ds with
        | none => rw [z] at e; cases e
        | some l' =>
          rw [z] at e
          cases e
          exact .cons (.ty b) (tyL_ok h2 z)
      | _ => cases e
theorem isiL_ok {a : String} (ha : ["NoneType", "bool", "int", "str", "list", "tuple"].contains a = true) : ∀ {l : List String} {k : Bool}, isiL a l = some k → PySem.W.kitAny K (.type a) (l.map Value.type) = some k
  | [], _, e => by cases e; rfl
  | b :: l, k, e => by
    unfold isiL at e
    rw [List.map_cons]
    unfold PySem.W.kitAny
    split at e
    · rename_i z
      cases e
      rw [kit_ty (isiT_ok ha z)]
    · rename_i z
      rw [kit_ty (isiT_ok ha z)]
      exact isiL_ok ha e
    · cases e
def cbIsiS : List D → Option R
  | [d, .tup cs] => match tyS d, tyL cs with
    | some t, some l => (isiL t l).map fun k => .im (.bl k)
    | _, _ => none
  | _ => none
theorem cd_isiS : CbD K (rIsiS K) cbIsiS := fun H Hs xs ds res s h e Q k => by
  unfold cbIsiS at e
  split at e
  case h_2 => cases e
  split at e
  case h_2 => cases e
  rename_i t l z1 z2
  cases z3 : isiL t l with
  | none => rw [z3] at e; cases e
  | some b =>
    rw [z3] at e
    cases e
    cases h with
    | cons a a2 =>
      cases a2 with
      | cons a2 a3 =>
        cases a3
        cases a2 with
        | tup h1 h2 =>
          obtain ⟨t1, t2⟩ := tyS_ok (a.mono s) z1
          exact ⟨_, _, _, _, _, b, rfl, same_tup s h1, tyL_ok h2 z2, t1, isiL_ok t2 z3, k _ H Hs (Ext.refl s) (.bl _)⟩
end
end Bk
namespace Bk
open PySem L2
section
variable {K : PySem.W.Frag}
def xstar (a : M R) (r : M (List D)) : M (List D) := fun G => bd (a G) fun x G1 => match seqD x.d with
  | some ds => bd (r G1) fun es G2 => some (ds ++ es, G2)
  | none => none
theorem ak_star {ta : TE} {tr : TA} {a : M R} {r : M (List D)} (ha : GOk K ta a) (hr : AOk K tr r) : AOk K (StX.tStar K ta tr) (xstar a r) := fun Fz ba G σ H Hs ds G' q e0 Q k => by
  obtain ⟨x, G1, e1, e⟩ := bd_inv e0
  refine ha.im q e1 fun v H1 Hs1 q1 s1 d1 => ?_
  split at e
  case h_2 => cases e
  rename_i xs hx
  obtain ⟨es, G2, e2, e⟩ := bd_inv e
  cases e
  obtain ⟨kk, p, vs, rfl, hp, hd⟩ := seqD_ok d1 hx
  have hp1 : SqT K H1 p vs ∨ SqL K H1 p vs := by
    cases kk with
    | true => exact .inr (same_lst q1.sub hp)
    | false => exact .inl (same_tup q1.sub hp)
  exact ⟨p, vs, rfl, hp1, hr Fz ba G1 σ H1 Hs1 es _ q1 e2 _ fun ws H2 Hs2 q2 s2 d2 => k _ H2 Hs2 q2 (s1.trans s2) ((hd.mono s2).app d2)⟩
def opAddB : D → D → Option R
  | .tup xs, .tup ys => if few (xs.length + ys.length) then some (.im (.tup (xs ++ ys))) else none
  | x, y => opAdd x y
def rAddB (K : PySem.W.Frag) : R2 := fun x y H Q => rAddA x y H Q ∨ rCatA K x y H Q
theorem op_addB {X : Cx} : OpR X (binaryOp .Add) (rAddB X.K) := op_addA.or op_catA
theorem od_addB : OpD K (rAddB K) opAddB := fun H Hs x y dx dy res s hx hy e Q k => by
  unfold opAddB at e
  split at e
  · split at e
    case isFalse => cases e
    rename_i xs ys hf
    cases e
    have hx0 := hx
    have hy0 := hy
    cases hx with
    | tup h1 d1 =>
      cases hy with
      | tup h2 d2 =>
        refine .inr ⟨_, _, _, _, rfl, rfl, same_tup s h1, same_tup s h2, by rw [d1.len, d2.len]; exact few_ok hf, fun z => ?_, fun _ z => ?_, fun _ _ p hp => ?_⟩
        · subst z
          cases d1
          exact k _ H Hs (Ext.refl s) hy0
        · subst z
          cases d2
          rw [List.append_nil] at k
          exact k _ H Hs (Ext.refl s) hx0
        · exact k _ _ _ (Ext.new s hp) (.tup (SqT.of upd_same) ((d1.app d2).mono (Ext.new (o := HO.tup _) s hp).b))
  · exact .inl (od_add H Hs x y dx dy res s hx hy e Q k)
def slB (d : D) (lo hi : Option Int) : Option R := match d with
  | .tup xs => some (.im (.tup (cutD xs lo hi)))
  | .str z => if few z.length then some (.im (.str (cutS z lo hi))) else none
  | d => slL d lo hi
def rSlB (K : PySem.W.Frag) : V → Option Int → Option Int → Hp → VK → Prop := fun x lo hi H Q => (rSlL K x lo hi H Q ∨ L2.rSlA K x lo hi H Q) ∨ rSlS x lo hi H Q
theorem sl_B {X : Cx} : SlR X (rSlB X.K) := (sl_list.or sl_tupA).or sl_str
theorem cut_whole {xs : List D} {lo hi : Option Int} (h : HT.sIx xs.length 0 lo = 0 ∧ HT.sIx xs.length xs.length hi = xs.length) : cutD xs lo hi = xs := by
  unfold cutD
  rw [h.1, h.2]
  simp
theorem sd_B : SlD K (rSlB K) slB := fun H Hs x dx l h res s hx e Q k => by
  unfold slB at e
  split at e
  · cases e
    have hx0 := hx
    cases hx with
    | tup h1 d1 =>
      refine .inl (.inr ⟨_, _, rfl, same_tup s h1, fun z => ?_, fun z p hp => ?_⟩)
      · rw [d1.len] at z
        rw [cut_whole z] at k
        exact k _ H Hs (Ext.refl s) hx0
      · exact k _ _ _ (Ext.new s hp) (.tup (SqT.of upd_same) (cut_ok (d1.mono (Ext.new (o := HO.tup _) s hp).b) _ _))
  · split at e
    case isFalse => cases e
    rename_i hf
    cases e
    cases hx
    exact .inr ⟨_, rfl, few_ok hf, k _ H Hs (Ext.refl s) (.str _)⟩
  · exact .inl (.inl (sd_list H Hs x _ l h res s hx e Q k))
def flatD : D → Option V
  | .non => some .non
  | .bl b => some (.bl b)
  | .int i => some (.int i)
  | .str x => some (.str x)
  | _ => none
def flatDs : List D → Option (List V)
  | [] => some []
  | d :: ds => match flatD d, flatDs ds with
    | some v, some vs => some (v :: vs)
    | _, _ => none
theorem flatD_ok {H : Hp} {x v : V} {d : D} (h : DR K H x d) (e : flatD d = some v) : x = v ∧ flatV v = true := by
  cases h <;> cases e <;> exact ⟨rfl, rfl⟩
theorem flatDs_ok {H : Hp} : ∀ {ds : List D} {xs vs : List V}, DRs K H xs ds → flatDs ds = some vs → xs = vs ∧ vs.all flatV = true
  | [], _, _, h, e => by cases h; cases e; exact ⟨rfl, rfl⟩
  | d :: ds, _, _, h, e => by
    unfold flatDs at e
    split at e
    case h_2 => cases e
    rename_i h1 h2
    cases e
    cases h with
    | cons a b =>
      obtain ⟨e1, f1⟩ := flatD_ok a h1
      obtain ⟨e2, f2⟩ := flatDs_ok b h2
      subst e1 e2
      exact ⟨rfl, by rw [List.all_cons, f1, f2]; rfl⟩
def opIn (neg : Bool) (x y : D) : Option R := match y with
  | .str z => match x with
    | .str i => match i.cps.toList with
      | [c] => some (.im (.bl (if neg then !decide (c ∈ z.cps.toList) else decide (c ∈ z.cps.toList))))
      | _ => none
    | _ => none
  | y => match seqD y, flatD x with
    | some ds, some v => match flatDs ds with
      | some vs => some (.im (.bl (if neg then !inV v vs else inV v vs)))
      | none => none
    | _, _ => none
def rInA (K : PySem.W.Frag) (neg : Bool) : R2 := fun x y H Q => rIn K neg x y H Q ∨ ∃ (c : Nat) (z : PySem.Str), x = .str ⟨#[c]⟩ ∧ y = .str z ∧ Q (.bl (if neg then !decide (c ∈ z.cps.toList) else decide (c ∈ z.cps.toList))) H
theorem op_notInA {X : Cx} : OpR X (compareOp .NotIn) (rInA X.K true) := op_notIn_seq.or op_notIn_sign
theorem od_in {neg : Bool} : OpD K (rInA K neg) (opIn neg) := fun H Hs x y dx dy res s hx hy e Q k => by
  unfold opIn at e
  split at e
  · split at e
    case h_2 => cases e
    split at e
    case h_2 => cases e
    rename_i z _ i _ c hc
    have hi : i = ⟨#[c]⟩ := by
      have z2 : i.cps = #[c] := by
        have z3 := congrArg List.toArray hc
        simpa using z3
      cases i
      exact congrArg PySem.Str.mk z2
    subst hi
    cases e
    cases hx; cases hy
    exact .inr ⟨c, z, rfl, rfl, k _ H Hs (Ext.refl s) (.bl _)⟩
  · split at e
    case h_2 => cases e
    rename_i ds v h1 h2
    split at e
    case h_2 => cases e
    rename_i vs h3
    cases e
    obtain ⟨e1, f1⟩ := flatD_ok hx h2
    obtain ⟨kk, p, xs, rfl, hp, hd⟩ := seqD_ok hy h1
    obtain ⟨e3, f3⟩ := flatDs_ok hd h3
    subst e1 e3
    refine .inl ⟨p, xs, rfl, ?_, f1, f3, k _ H Hs (Ext.refl s) (.bl _)⟩
    cases kk with
    | true => exact .inl (same_lst s hp)
    | false => exact .inr (same_tup s hp)
end
end Bk
namespace Bk
open PySem L2
section
variable {K : PySem.W.Frag}
def xlc2L (tg : D → Gam → Option Gam) (c : M Bool) (it1 : M (List D)) (tg1 : D → Gam → Option Gam) (c1 : M Bool) (e : M R) (vs vs1 : List Nat) : List D → M (List D)
  | [], G => some ([], G)
  | d :: ds, G => match tg d G with
    | none => none
    | some G1 => bd (c G1) fun k G2 => if k then bd (it1 G2) fun ds1 G3 => bd (xlcL tg1 c1 e vs1 ds1 (wipeG G3 vs1)) fun o1 G4 => bd (xlc2L tg c it1 tg1 c1 e vs vs1 ds (wipeG G4 vs)) fun o2 G5 => some (o1 ++ o2, G5)
        else xlc2L tg c it1 tg1 c1 e vs vs1 ds (wipeG G2 vs)
def xlc2 (it : M (List D)) (tg : D → Gam → Option Gam) (c : M Bool) (it1 : M (List D)) (tg1 : D → Gam → Option Gam) (c1 : M Bool) (e : M R) (vs vs1 : List Nat) : M R := fun G => bd (it G) fun ds G1 =>
  if noMu G1 vs then bd (xlc2L tg c it1 tg1 c1 e vs vs1 ds (wipeG G1 vs)) fun out G2 => if few out.length then some (.ol out, unw G1 G2 vs) else none else none
theorem wipe_sub {σ : L2.St} {vs vs1 : List Nat} (h : ∀ j ∈ vs1, j ∈ vs) : wipe (wipe σ vs1) vs = wipe σ vs := wipe_eq (wipe_length σ vs1) fun j hj => wipe_get fun z => hj (h j z)
theorem gk_lc2 {w w1 : TI} {g g1 : TG} {t t1 : TT} {te : TE} {it it1 : M (List D)} {tg tg1 : D → Gam → Option Gam} {js js1 vs vs1 : List Nat} {c c1 : M Bool} {a : M R} (hi : IOk K w it) (hg : GtOk K g tg js) (hc : TOk K t c) (hi1 : IOk K w1 it1) (hg1 : GtOk K g1 tg1 js1) (hc1 : TOk K t1 c1) (ha : GOk K te a)
    (hj : ∀ j ∈ js, j ∈ vs) (hj1 : ∀ j ∈ js1, j ∈ vs1) (hs : ∀ j ∈ vs1, j ∈ vs) : GOk K (tLc2 w g t w1 g1 t1 te vs vs1) (xlc2 it tg c it1 tg1 c1 a vs vs1) := fun Fz ba G σ H Hs res G' q e Q k => by
  obtain ⟨ds, G1, e1, e⟩ := bd_inv e
  split at e
  case isFalse => cases e
  rename_i nm
  obtain ⟨out, G2, e2, e⟩ := bd_inv e
  split at e
  case isFalse => cases e
  rename_i hf
  cases e
  refine hi Fz ba G σ H Hs ds _ q e1 _ fun J H1 Hs1 q1 s1 Y p hp => ?_
  have hfp : Fz p = none := by
    cases z : Fz p with
    | none => rfl
    | some o =>
      obtain ⟨z1, _⟩ := q1.fz p o z
      rw [hp] at z1
      cases z1
  have q1w := (q1.wiped vs).hide (o := .lst []) hp
  refine ⟨fun i m H2 => m = ds.length - i ∧ i ≤ ds.length ∧ ∃ G3 Hs3 acc ad more, Rel K (upd Fz p (.lst acc)) ba G3 (wipe σ vs) H2 Hs3 ∧ Same Hs1 Hs3 ∧ DRs K Hs3 acc ad ∧ xlc2L tg c it1 tg1 c1 a vs vs1 (ds.drop i) G3 = some (more, G2) ∧ ad ++ more = out,
    ⟨ds.length, rfl, Nat.zero_le _, wipeG G1 vs, Hs1, [], [], out, q1w, Same.refl _, .nil, e2, rfl⟩, ?_⟩
  rintro i m H2 ⟨rfl, hi2, G3, Hs3, acc, ad, more, q3, s3, da, e3, eo⟩
  by_cases hlt : i < ds.length
  · refine .inr ⟨Y.go i H2 (s3.trans q3.sub) hlt, fun H' => i + 1 ≤ ds.length ∧ ∃ G4 Hs4 acc ad more, Rel K (upd Fz p (.lst acc)) ba G4 (wipe σ vs) H' Hs4 ∧ Same Hs1 Hs4 ∧ DRs K Hs4 acc ad ∧ xlc2L tg c it1 tg1 c1 a vs vs1 (ds.drop (i + 1)) G4 = some (more, G2) ∧ ad ++ more = out,
      fun H' ⟨z, z2⟩ => ⟨ds.length - (i + 1), by omega, rfl, z, z2⟩, fun x H' y => ?_⟩
    obtain ⟨d, Hs4, d1, ex, dr⟩ := Y.yld i x H2 H' Hs3 hlt s3 q3.sub y
    have q4 := q3.ext ex
    have ed : ds.drop i = d :: ds.drop (i + 1) := by
      rw [List.drop_eq_getElem_cons hlt]
      rw [List.getElem?_eq_getElem hlt] at d1
      cases d1
      rfl
    rw [ed] at e3
    unfold xlc2L at e3
    cases hG : tg d G3 with
    | none => rw [hG] at e3; cases e3
    | some G4 =>
      rw [hG] at e3
      refine hg.run _ ba G3 _ H' Hs4 x d G4 q4 dr hG _ fun σ5 q5 l5 k5 => ?_
      have hlen : σ5.length = σ.length := by rw [l5, wipe_length]
      have hw : wipe σ5 vs = wipe σ vs := by
        have z := wipe_eq (σ := wipe σ vs) (τ := σ5) (vs := vs) (by rw [wipe_length]; exact hlen) fun j hj' => k5 j fun z => hj' (hj j z)
        rw [z]
        exact wipe_eq (wipe_length σ vs) fun j hj' => wipe_get hj'
      refine ⟨hw, ?_⟩
      obtain ⟨b, G5, e5, e6⟩ := bd_inv e3
      refine hc _ ba G4 σ5 H' Hs4 b G5 q5 e5 _ fun H5 Hs5 q6 s6 => ?_
      cases b with
      | true =>
        obtain ⟨ds1, G6, e7, e8⟩ := bd_inv (show bd (it1 G5) _ = _ from e6)
        obtain ⟨o1, G7, e9, e10⟩ := bd_inv e8
        obtain ⟨o2, G8, e11, e12⟩ := bd_inv e10
        cases e12
        rw [if_pos rfl]
        refine hi1 _ ba G5 σ5 H5 Hs5 ds1 G6 q6 e7 _ fun J1 H6 Hs6 q7 s7 Y1 => ?_
        refine ⟨fun j n H7 => n = ds1.length - j ∧ j ≤ ds1.length ∧ ∃ G9 Hs9 acc ad more, Rel K (upd Fz p (.lst acc)) ba G9 (wipe σ5 vs1) H7 Hs9 ∧ Same Hs6 Hs9 ∧ DRs K Hs9 acc ad ∧ xlcL tg1 c1 a vs1 (ds1.drop j) G9 = some (more, G7) ∧ ad ++ (more ++ o2) = out,
          ⟨ds1.length, rfl, Nat.zero_le _, wipeG G6 vs1, Hs6, acc, ad, o1, q7.wiped vs1, Same.refl _, da.mono ((ex.b.trans s6).trans s7), e9, eo⟩, ?_⟩
        rintro j n H7 ⟨rfl, hj2, G9, Hs9, acc9, ad9, more9, q9, s9, da9, e13, eo9⟩
        by_cases hlt1 : j < ds1.length
        · refine .inr ⟨Y1.go j H7 (s9.trans q9.sub) hlt1, fun H' => j + 1 ≤ ds1.length ∧ ∃ G9 Hs9 acc ad more, Rel K (upd Fz p (.lst acc)) ba G9 (wipe σ5 vs1) H' Hs9 ∧ Same Hs6 Hs9 ∧ DRs K Hs9 acc ad ∧ xlcL tg1 c1 a vs1 (ds1.drop (j + 1)) G9 = some (more, G7) ∧ ad ++ (more ++ o2) = out,
            fun H' ⟨z, z2⟩ => ⟨ds1.length - (j + 1), by omega, rfl, z, z2⟩, fun x1 H8 y1 => ?_⟩
          obtain ⟨dd, Hs10, dd1, ex1, dr1⟩ := Y1.yld j x1 H7 H8 Hs9 hlt1 s9 q9.sub y1
          have q10 := q9.ext ex1
          have ed1 : ds1.drop j = dd :: ds1.drop (j + 1) := by
            rw [List.drop_eq_getElem_cons hlt1]
            rw [List.getElem?_eq_getElem hlt1] at dd1
            cases dd1
            rfl
          rw [ed1] at e13
          unfold xlcL at e13
          cases hG1 : tg1 dd G9 with
          | none => rw [hG1] at e13; cases e13
          | some G11 =>
            rw [hG1] at e13
            refine hg1.run _ ba G9 _ H8 Hs10 x1 dd G11 q10 dr1 hG1 _ fun σ6 q11 l6 k6 => ?_
            have hlen6 : σ6.length = σ5.length := by rw [l6, wipe_length]
            have hw6 : wipe σ6 vs1 = wipe σ5 vs1 := by
              have z := wipe_eq (σ := wipe σ5 vs1) (τ := σ6) (vs := vs1) (by rw [wipe_length]; exact hlen6) fun j hj' => k6 j fun z => hj' (hj1 j z)
              rw [z]
              exact wipe_eq (wipe_length σ5 vs1) fun j hj' => wipe_get hj'
            refine ⟨hw6, ?_⟩
            obtain ⟨b1, G12, e14, e15⟩ := bd_inv e13
            refine hc1 _ ba G11 σ6 H8 Hs10 b1 G12 q11 e14 _ fun H12 Hs12 q12 s12 => ?_
            cases b1 with
            | true =>
              obtain ⟨r, G13, e16, e17⟩ := bd_inv (show bd (a G12) _ = _ from e15)
              obtain ⟨out2, G14, e18, e19⟩ := bd_inv e17
              cases e19
              rw [if_pos rfl]
              refine ha.im q12 e16 fun v H13 Hs13 q13 s13 d13 => ?_
              obtain ⟨f1, f2⟩ := q13.fz p _ upd_same
              have q14 := (q13.rehide (o' := .lst (acc9 ++ [v]))).wiped vs1
              rw [hw6] at q14
              refine ⟨acc9, f1, ?_, hlt1, _, Hs13, _, ad9 ++ [r.d], out2, q14, ((s9.trans ex1.b).trans s12).trans s13, (da9.mono ((ex1.b.trans s12).trans s13)).app (.cons d13 .nil), e18, ?_⟩
              · have z1 := da9.len
                have z2 : ad9.length ≤ out.length := by rw [← eo9, List.length_append]; omega
                exact Nat.lt_of_le_of_lt (by omega) (few_lt hf)
              · rw [← eo9]
                simp
            | false =>
              rw [if_neg Bool.false_ne_true] at e15 ⊢
              have q14 := q12.wiped vs1
              rw [hw6] at q14
              exact ⟨hlt1, _, Hs12, acc9, ad9, more9, q14, (s9.trans ex1.b).trans s12, da9.mono (ex1.b.trans s12), e15, eo9⟩
        · have hend : ds1.length ≤ j := by omega
          rw [List.drop_eq_nil_of_le hend] at e13
          cases e13
          rw [List.nil_append] at eo9
          refine .inl ⟨Y1.stop j H7 (s9.trans q9.sub) hend, hlt, _, Hs9, acc9, ad9, o2, ?_, (((s3.trans ex.b).trans s6).trans s7).trans s9, da9, e11, eo9⟩
          have z := q9.wiped vs
          rw [wipe_sub hs, hw] at z
          exact z
      | false =>
        rw [if_neg Bool.false_ne_true] at e6 ⊢
        have q8 := q6.wiped vs
        rw [hw] at q8
        exact ⟨hlt, _, Hs5, acc, ad, more, q8, (s3.trans ex.b).trans s6, da.mono (ex.b.trans s6), e6, eo⟩
  · have hend : ds.length ≤ i := by omega
    rw [List.drop_eq_nil_of_le hend] at e3
    cases e3
    rw [List.append_nil] at eo
    subst eo
    obtain ⟨f1, f2⟩ := q3.fz p _ upd_same
    refine .inl ⟨Y.stop i H2 (s3.trans q3.sub) hend, k _ H2 Hs3 (q1.unwipe (q3.unhide hfp) s3 nm) (s1.trans s3) ⟨p, _, rfl, f1, f2, hfp, ⟨acc, rfl, da⟩, fun j e' g m z => ?_⟩⟩
    by_cases hjv : j ∈ vs
    · have z1 := q1.len
      have z2 := q3.len
      rw [wipe_length, z1] at z2
      rw [unw_in (G1 := G1) z2.symm hjv] at g
      exact m (noMu_ok nm hjv g)
    · rw [unw_out hjv] at g
      obtain ⟨ds', hd'⟩ : ∃ ds', e'.mu = some ds' := by
        cases y : e'.mu with
        | none => exact absurd y m
        | some ds' => exact ⟨ds', rfl⟩
      obtain ⟨l, ws, a1, a2, a3, a4, a5⟩ := q3.mu j e' ds' g hd'
      rw [wipe_get hjv, z] at a1
      cases a1
      rw [upd_same] at a4
      cases a4
end
end Bk
namespace Bk
open PySem L2
section
variable {K : PySem.W.Frag}
/-- the address that a result owns is p -/
def OwnAt (v : V) (r : R) (p : Addr) : Prop := (∃ m, r = .ow m) ∧ v = .ref p
inductive ResL (K : PySem.W.Frag) (Fz : Hp) (G : Gam) (σ : L2.St) (H Hs : Hp) : List V → List R → Prop
  | nil : ResL K Fz G σ H Hs [] []
  | cons {v : V} {r : R} {vs : List V} {rs : List R} : Res K Fz G σ H Hs v r → (∀ p, OwnAt v r p → ∀ x ∈ vs.zip rs, ¬ OwnAt x.1 x.2 p) → ResL K Fz G σ H Hs vs rs → ResL K Fz G σ H Hs (v :: vs) (r :: rs)
theorem Rel.lock {Fz : Hp} {ba : Nat → Addr} {G : Gam} {σ : L2.St} {H Hs : Hp} (q : Rel K Fz ba G σ H Hs) {p : Addr} {o : HO} (h : H p = some o) (hs : Hs p = none) (hn : ∀ (i : Nat) (e : Ent), G[i]? = some e → e.mu ≠ none → σ[i]? ≠ some (some (.ref p))) : Rel K (upd Fz p o) ba G σ H Hs := by
  refine ⟨q.sub, fun a u e => ?_, q.len, q.im, fun i e ds g g0 => ?_, q.dj, q.bx⟩
  · by_cases z : a = p
    · subst z
      rw [upd_same] at e
      cases e
      exact ⟨h, hs⟩
    · rw [upd_ne z] at e
      exact q.fz a u e
  · obtain ⟨l, vs, a1, a2, a3, a4, a5⟩ := q.mu i e ds g g0
    have ne : l ≠ p := fun z => by
      subst z
      exact hn i e g (by rw [g0]; simp) a1
    exact ⟨l, vs, a1, a2, a3, by rw [upd_ne ne]; exact a4, a5⟩
theorem Res.unlock {Fz : Hp} {G : Gam} {σ : L2.St} {H Hs : Hp} {p : Addr} {o : HO} (hf : Fz p = none) {v : V} {r : R} (h : Res K (upd Fz p o) G σ H Hs v r) : Res K Fz G σ H Hs v r ∧ ¬ OwnAt v r p := by
  cases r with
  | im d => exact ⟨h, fun ⟨⟨m, z⟩, _⟩ => nomatch z⟩
  | ow m =>
    obtain ⟨p', o', rfl, h1, h2, h3, h4, h5⟩ := h
    have ne : p' ≠ p := fun z => by
      subst z
      rw [upd_same] at h3
      cases h3
    rw [upd_ne ne] at h3
    exact ⟨⟨p', o', rfl, h1, h2, h3, h4, h5⟩, fun ⟨_, z⟩ => ne (V.ref.inj z)⟩
theorem ResL.unlock {Fz : Hp} {G : Gam} {σ : L2.St} {H Hs : Hp} {p : Addr} {o : HO} (hf : Fz p = none) : ∀ {vs : List V} {rs : List R}, ResL K (upd Fz p o) G σ H Hs vs rs → ResL K Fz G σ H Hs vs rs ∧ ∀ x ∈ vs.zip rs, ¬ OwnAt x.1 x.2 p
  | _, _, .nil => ⟨.nil, fun x h => by simp at h⟩
  | _, _, .cons h hd t => by
    obtain ⟨a1, a2⟩ := h.unlock hf
    obtain ⟨b1, b2⟩ := ResL.unlock hf t
    refine ⟨.cons a1 hd b1, fun x hx => ?_⟩
    rw [List.zip_cons_cons, List.mem_cons] at hx
    rcases hx with rfl | hx
    · exact a2
    · exact b2 x hx
def AROk (K : PySem.W.Frag) (t : TA) (f : M (List R)) : Prop := ∀ Fz ba G σ H Hs rs G', Rel K Fz ba G σ H Hs → f G = some (rs, G') →
  ∀ Q : List V → Hp → Prop, (∀ vs H' Hs', Rel K Fz ba G' σ H' Hs' → Same Hs Hs' → ResL K Fz G' σ H' Hs' vs rs → Q vs H') → t σ H Q
def ynil : M (List R) := fun G => some ([], G)
def ycons (a : M R) (r : M (List R)) : M (List R) := fun G => bd (a G) fun x G1 => bd (r G1) fun xs G2 => some (x :: xs, G2)
theorem yk_nil : AROk K tNil ynil := fun Fz ba G σ H Hs rs G' q e Q k => by
  cases e
  exact k [] H Hs q (Same.refl _) .nil
theorem yk_cons {ta : TE} {tr : TA} {a : M R} {r : M (List R)} (ha : GOk K ta a) (hr : AROk K tr r) : AROk K (tCons ta tr) (ycons a r) := fun Fz ba G σ H Hs rs G' q e Q k => by
  obtain ⟨x, G1, e1, e⟩ := bd_inv e
  obtain ⟨xs, G2, e2, e⟩ := bd_inv e
  cases e
  refine ha Fz ba G σ H Hs x G1 q e1 _ fun v H1 Hs1 q1 s1 r1 => ?_
  cases x with
  | im d =>
    refine hr Fz ba G1 σ H1 Hs1 xs _ q1 e2 _ fun vs H2 Hs2 q2 s2 r2 => k _ H2 Hs2 q2 (s1.trans s2) (.cons (show DR K Hs2 v d from DR.mono s2 r1) (fun p ⟨⟨m, z⟩, _⟩ => nomatch z) r2)
  | ow m =>
    obtain ⟨p, o, rfl, h1, h2, h3, h4, h5⟩ := r1
    have ql := q1.lock h1 h2 h5
    refine hr _ ba G1 σ H1 Hs1 xs _ ql e2 _ fun vs H2 Hs2 q2 s2 r2 => ?_
    obtain ⟨f1, f2⟩ := q2.fz p o upd_same
    obtain ⟨u1, u2⟩ := ResL.unlock h3 r2
    refine k _ H2 Hs2 (q2.unhide h3) (s1.trans s2) (.cons ⟨p, o, rfl, f1, f2, h3, h4.mono s2, fun i e g mm z => ?_⟩ (fun p' ⟨_, z⟩ => ?_) u1)
    · obtain ⟨ds', hd'⟩ : ∃ ds', e.mu = some ds' := by
        cases y : e.mu with
        | none => exact absurd y mm
        | some ds' => exact ⟨ds', rfl⟩
      obtain ⟨l, ws, a1, a2, a3, a4, a5⟩ := q2.mu i e ds' g hd'
      rw [z] at a1
      cases a1
      rw [upd_same] at a4
      cases a4
    · cases z
      exact u2
/-- a result is still one behind a store of another -/
theorem Res.set {Fz : Hp} {G : Gam} {σ : L2.St} {H Hs : Hp} {i : Nat} {v w : V} {x y : R} (hl : σ.length = G.length) (h : Res K Fz G σ H Hs w y) (hd : ∀ p, OwnAt v x p → ¬ OwnAt w y p) (hx : Res K Fz G σ H Hs v x) : Res K Fz (G.set i x.ent) (σ.set i (some v)) H Hs w y := by
  cases y with
  | im d => exact h
  | ow m =>
    obtain ⟨p, o, rfl, h1, h2, h3, h4, h5⟩ := h
    refine ⟨p, o, rfl, h1, h2, h3, h4, fun j e g mm z => ?_⟩
    rcases get_set g with ⟨rfl, e1, hi⟩ | ⟨ne, g⟩
    · rw [List.getElem?_set_self (by rw [hl]; exact hi)] at z
      cases z
      cases x with
      | im d => subst e1; exact mm rfl
      | ow m' => exact hd p ⟨⟨m', rfl⟩, rfl⟩ ⟨⟨m, rfl⟩, rfl⟩
    · rw [List.getElem?_set_ne ne] at z
      exact h5 j e g mm z
def ypar (i j : Nat) (a : M (List R)) : MS := fun G => bd (a G) fun xs G1 => match xs with
  | [x, y] => some (.nx, (G1.set i x.ent).set j y.ent)
  | _ => none
theorem sk_ypar {i j : Nat} {ta : TA} {a : M (List R)} (ha : AROk K ta a) : SOk K (tPar i j ta) (ypar i j a) := fun Fz ba G σ H Hs fl G' q e Dn p => by
  obtain ⟨xs, G1, e1, e⟩ := bd_inv e
  split at e
  case h_2 => cases e
  rename_i x y
  cases e
  refine ha Fz ba G σ H Hs _ _ q e1 _ fun vs H1 Hs1 q1 s1 d1 => ?_
  cases d1 with
  | cons rx hd d1 =>
    cases d1 with
    | cons ry hd2 d1 =>
      cases d1
      have q2 := q1.set (i := i) rx
      have ry2 := Res.set (i := i) q1.len ry (fun p hp => hd p hp (_, y) (List.mem_cons_self)) rx
      exact ⟨_, _, rfl, p _ H1 Hs1 (q2.set (i := j) ry2) s1⟩
end
section
variable {X : Cx} {o : Expr} {f : PySem.Str} {pos : Pos} {ta : TE}
def gFld (K : PySem.W.Frag) (ta : TE) (f : PySem.Str) : TG := fun v σ H Q => ta σ H fun x H1 => ∃ a C dx fs, x = .ref a ∧ H1 a = some (.ins C dx fs) ∧ Cls K C ∧ NoAttr K C f ∧ fs.length < 1000 ∧ Q σ (upd H1 a (.ins C dx (putF f v fs)))
theorem pg_fld (ho : PE X o ta) : PG X (.Attribute o f pos) (gFld X.K ta f) := by
  refine ⟨fun pins s σ H v u Q I r h => ?_⟩
  show wpAny _ _ (do
    let ov ← holding [u] (eval o X.env)
    standAt pos.atName
    holding [u, ov] (setAttr ov f u)
    release [u, ov] []) _ _ _
  refine wpAny_bind (wpAny_holding (thn (ho.run pins s σ H _ I h) fun ov s1 ⟨x, H1, I1, r1, a, C, dx, fs, ex, ea, c, n, hl, q⟩ => ?_))
  subst ex
  obtain rfl : ov = Value.ref a := r1
  refine wpAny_bind (wpAny_standAt (wpAny_bind (wpAny_holding (setattr_ok I1 ea c n hl r fun s2 I2 => ?_))))
  exact wpAny_release ⟨σ, _, I2, q⟩
end
section
variable {K : PySem.W.Frag} {mg : PySem.Str → Option Value}
def tgf (j c i : Nat) : D → Gam → Option Gam := fun d G => putA j c i d G
theorem gt_fld {j c i : Nat} {f : PySem.Str} (T : ClT K mg c) (hf : (cAttrs c)[i]? = some f) : ∀ Fz ba G σ H Hs v d G', Rel K Fz ba G σ H Hs → DR K Hs v d → tgf j c i d G = some G' → ∀ Q : L2.St → Hp → Prop, (∀ H', Rel K Fz ba G' σ H' Hs → Q σ H') → gFld K (tVar j) f v σ H Q := fun Fz ba G σ H Hs v d G' q hd e Q k => by
  obtain ⟨a, dx, fs, g1, g2, g3, g4⟩ := putA_ok T hf q hd e
  exact ⟨_, g1, a, T.C, dx, fs, rfl, g2, T.cls, T.na f (List.mem_of_getElem? hf), g3, k _ g4⟩
/-- self.f, self.g = e -/
def xasgF (j c i k : Nat) (a : M R) : MS := fun G => bd (a G) fun x G1 => match x.d with
  | .tup [d, d'] => match putA j c i d G1 with
    | some G2 => match putA j c k d' G2 with
      | some G3 => some (.nx, G3)
      | none => none
    | none => none
  | _ => none
theorem sk_asgF {j c i k : Nat} {f g : PySem.Str} (T : ClT K mg c) (hf : (cAttrs c)[i]? = some f) (hg : (cAttrs c)[k]? = some g) {ta : TE} {a : M R} (ha : GOk K ta a) : SOk K (tAsg ta (gTup K 2 (gCons (gFld K (tVar j) f) (gCons (gFld K (tVar j) g) gNil)))) (xasgF j c i k a) := fun Fz ba G σ H Hs fl G' q e Dn p => by
  obtain ⟨x, G1, e1, e⟩ := bd_inv e
  refine ha.im q e1 fun v H1 Hs1 q1 s1 d1 => ?_
  split at e
  case h_2 => cases e
  rename_i d d' hx
  rw [hx] at d1
  split at e
  case h_2 => cases e
  rename_i G2 h2
  split at e
  case h_2 => cases e
  rename_i G3 h3
  cases e
  cases d1 with
  | tup ht hd =>
    cases hd with
    | cons da hd =>
      cases hd with
      | cons db hd =>
        cases hd
        refine ⟨_, _, rfl, same_tup q1.sub ht, rfl, _, _, rfl, ?_⟩
        refine gt_fld T hf Fz ba G1 σ H1 Hs1 _ d G2 q1 da h2 _ fun H2 q2 => ?_
        refine ⟨_, _, rfl, ?_⟩
        refine gt_fld T hg Fz ba G2 σ H2 Hs1 _ d' _ q2 db h3 _ fun H3 q3 => ?_
        exact ⟨rfl, p σ H3 Hs1 q3 s1⟩
end
end Bk
namespace Bk
open PySem L2 PyProof.Rows Srt
section
variable {prog : Program} {w : World} {A : Around} {E : Value → Shared → Prop} {s : Shared}
/-- a tuple of an int and a pair of ints -/
def IsKP (h : Heap) (v : Value) (k : Int × Int × Int) : Prop := ∃ (a b : Addr) (o o2 : Obj) (t u z : Tok) (n n2 : Nat), v = .ref a ∧ h.get? a = some o ∧ o.cls = .type "tuple" ∧ o.data = .seq #[.int k.1 t, .ref b] n ∧ h.get? b = some o2 ∧ o2.cls = .type "tuple" ∧ o2.data = .seq #[.int k.2.1 u, .int k.2.2 z] n2
theorem IsKP.keeps {h h' : Heap} {v : Value} {k : Int × Int × Int} (p : IsKP h v k) (kk : ∀ b o, h.get? b = some o → o.cls = .type "tuple" → h'.get? b = some o) : IsKP h' v k := by
  obtain ⟨a, b, o, o2, t, u, z, n, n2, e, h1, h2, h3, h4, h5, h6⟩ := p
  exact ⟨a, b, o, o2, t, u, z, n, n2, e, kk _ _ h1 h2, h2, h3, kk _ _ h4 h5, h5, h6⟩
def ltK (k : Value → Int × Int × Int) (v u : Value) : Bool := decide ((k v).1 < (k u).1)
theorem swo_K (k : Value → Int × Int × Int) : SrtO.Swo (ltK k) := by
  refine ⟨fun x y h => ?_, fun x y z h1 h2 => ?_⟩
  · have a := of_decide_eq_true h
    exact decide_eq_false (by omega)
  · have a := of_decide_eq_false h1
    have b := of_decide_eq_false h2
    exact decide_eq_false (by omega)
theorem eq_pairs {b b' : Addr} {o2 o2' : Obj} {p q : Int} {u z u' z' : Tok} {n n' : Nat} (hu : A.units < cLine) (h1 : s.heap.get? b = some o2) (c1 : o2.cls = .type "tuple") (d1 : o2.data = .seq #[.int p u, .int q z] n) (h2 : s.heap.get? b' = some o2') (c2 : o2'.cls = .type "tuple") (d2 : o2'.data = .seq #[.int p u', .int q z'] n') :
    SeqAt.EqAt A s (.ref b) (.ref b') true := by
  by_cases e : b = b'
  · subst e
    exact SeqAt.EqAt.same _
  · have key := SeqAt.RcAt.tuples (A := A) (s := s) (l := b) (b := b') (items := #[.int p u, .int q z]) (items2 := #[.int p u', .int q z']) (e := fun _ => true) ⟨o2, h1, c1, n, d1⟩ ⟨o2', h2, c2, n', d2⟩ hu (fun j j1 j2 => ?_)
    · have key2 : SeqAt.RcAt A s (.ref b) (.ref b') true := by
        have z : ((List.range (min (#[Value.int p u, Value.int q z]).size (#[Value.int p u', Value.int q z']).size)).all (fun _ => true) && (#[Value.int p u, Value.int q z]).size == (#[Value.int p u', Value.int q z']).size) = true := by
          show ((List.range 2).all (fun _ => true) && (2 == 2)) = true
          decide
        rw [z] at key
        exact key
      exact SeqAt.EqAt.of_refs e key2
    · match j, j1, j2 with
      | 0, _, _ => simpa using SeqAt.EqAt.int_int (A := A.in1) (s := s) p u p u'
      | 1, _, _ => simpa using SeqAt.EqAt.int_int (A := A.in1) (s := s) q z q z'
theorem kp_cmp {vs : List Value} {k : Value → Int × Int × Int} (hu : A.units < cLine) (hp : ∀ v ∈ vs, IsKP s.heap v (k v)) (hq : ∀ v ∈ vs, ∀ u ∈ vs, (k v).1 = (k u).1 → (k v).2 = (k u).2) : SrtO.Cmp prog w A s (tuples' true) (fun p => p.1 ∈ vs) (SrtO.lt2 (ltK k)) := by
  intro p q hm hm'
  have h1 := hp _ hm
  have h2 := hp _ hm'
  have h3 := hq _ hm _ hm'
  show wpAny (model prog w) A (keyLt' (tuples' true) p.1 q.1) (fun r s' => s' = s ∧ r = ltK k p.1 q.1) (fun _ _ => False) s
  unfold ltK
  generalize k p.1 = x at h1 h3 ⊢
  generalize k q.1 = y at h2 h3 ⊢
  obtain ⟨a, b, o, o2, t, u, z, n, n2, e, a1, a2, a3, a4, a5, a6⟩ := h1
  obtain ⟨a', b', o', o2', t', u', z', n', n2', e', b1, b2, b3, b4, b5, b6⟩ := h2
  rw [e, e']
  refine PySem.W.kat_lt a1 a3 b1 b3 ?_
  show PySem.W.KatLex prog w A true (decide (2 < 2)) _ [(.int x.1 t, .int y.1 t'), (.ref b, .ref b')] 0 s
  refine PySem.W.kat_cons (SeqAt.EqAt.int_int x.1 t y.1 t' prog w _ _ ?_)
  refine PySem.W.kat_go (fun e1 => ?_) (fun e1 => ?_)
  · have ex : x.1 = y.1 := by simpa using e1
    have e2 := h3 ex
    rw [← e2] at b6
    refine PySem.W.kat_yes (PySem.W.kat_cons (eq_pairs hu a4 a5 a6 b4 b5 b6 prog w _ _ ?_))
    refine PySem.W.kat_yes (PySem.W.kat_nil ⟨rfl, ?_⟩)
    rw [ex]
    exact (decide_eq_false (Int.lt_irrefl _)).symm
  · exact PySem.W.kat_no (oneLt_int ⟨rfl, rfl⟩)
theorem kp_firsts {h : Heap} : ∀ {vs : List Value}, (∀ v ∈ vs, ∃ k, IsKP h v k) → ∃ fs : List Value, PySem.W.KatTups h vs fs ∧ fs.length = vs.length ∧ ∀ f ∈ fs, ∃ x t, f = Value.int x t
  | [], _ => ⟨[], PySem.W.KatTups.nil, rfl, fun _ hm => by simp at hm⟩
  | v :: vs, hp => by
    obtain ⟨fs, h1, h2, h3⟩ := kp_firsts (vs := vs) fun v' hm => hp v' (List.mem_cons_of_mem _ hm)
    obtain ⟨k, a, b, o, o2, t, u, z, n, n2, e, a1, a2, a3, a4, a5, a6⟩ := hp v (List.mem_cons_self ..)
    subst e
    refine ⟨.int k.1 t :: fs, ?_, by rw [List.length_cons, List.length_cons, h2], fun f hf => ?_⟩
    · exact PySem.W.KatTups.cons a1 a2 a3 rfl h1
    · rcases List.mem_cons.mp hf with rfl | hf
      · exact ⟨_, _, rfl⟩
      · exact h3 f hf
theorem kp_sortable {a : Addr} {vs : List Value} {k : Value → Int × Int × Int} (hu : A.units < cLine) (h0 : 0 < vs.length) (hp : ∀ v ∈ vs, IsKP s.heap v (k v)) (hq : ∀ v ∈ vs, ∀ u ∈ vs, (k v).1 = (k u).1 → (k v).2 = (k u).2) (ha : ∀ o, s.heap.get? a = some o → o.cls ≠ .type "tuple") :
    SrtO.SortableO prog w A s a vs (ltK k) := by
  intro h' keep
  have hp' : ∀ v ∈ vs, IsKP h' v (k v) := fun v hm => (hp v hm).keeps fun b o e c => keep b o (fun z => ha o (z ▸ e) c) e
  obtain ⟨fs, h1, h2, h3⟩ := kp_firsts fun v hm => ⟨_, hp' v hm⟩
  refine ⟨tuples' true, fun Q E hq2 => ?_, kp_cmp hu hp' hq⟩
  refine PySem.W.kat_kind (T := .type "int") h1 (by omega) (fun f hm => ?_) rfl ?_
  · obtain ⟨x, t, rfl⟩ := h3 f hm
    exact PySem.W.Looks.now
  · rw [show (Value.type "int" != Value.type "tuple") = true by decide +kernel]
    exact hq2
theorem sorted_kp {l : Addr} {vs : List Value} {k : Value → Int × Int × Int} {Q : Value → Shared → Prop} (hu : A.in1.in1.units < cLine) (hl : s.heap.IsList l vs.toArray) (hz : vs.length ≤ sizeLine) (hp : ∀ v ∈ vs, IsKP s.heap v (k v)) (hq : ∀ v ∈ vs, ∀ u ∈ vs, (k v).1 = (k u).1 → (k v).2 = (k u).2)
    (h : ∀ (h' : Heap) (d : Addr) (out : List Value), SrtO.Srtd (ltK k) out → SrtO.Stb (ltK k) out vs → (∀ b o, s.heap.get? b = some o → h'.get? b = some o) → s.heap.objs.size ≤ d → (∃ n, h'.get? d = some (seqObj "list" out.toArray n)) → Q (.ref d) { s with heap := h' }) :
    wpAny (model prog w) A (call (.builtin "sorted") [.ref l]) Q E s := by
  refine SrtO.sorted_ord (swo_K k) hl hz (fun h2 h₁ a ha kk => ?_) fun out hs hb => ?_
  · refine kp_sortable (s := { s with heap := h₁ }) hu (by omega) (fun v hm => (hp v hm).keeps fun b o e _ => (kk b o e).2) hq fun o e => ?_
    rw [ha] at e
    cases e
    exact fun c => absurd (Value.type.inj c) (by decide)
  · exact h _ _ out hs hb (fun b o e => sortedAll_old e) (Nat.le_succ _) (sortedAll_at s.heap vs out.toArray)
end
/-- the same order on the values of the layer -/
abbrev ltV (k : V → Int × Int × Int) (x y : V) : Bool := decide ((k x).1 < (k y).1)
theorem ltV_swo (k : V → Int × Int × Int) : SrtO.Swo (ltV k) := by
  refine ⟨fun x y h => ?_, fun x y z h1 h2 => ?_⟩
  · have a := of_decide_eq_true h
    exact decide_eq_false (by omega)
  · have a := of_decide_eq_false h1
    have b := of_decide_eq_false h2
    exact decide_eq_false (by omega)
def rSortK (K : PySem.W.Frag) : List V → Hp → VK → Prop := fun vs H Q => ∃ (a : Addr) (xs : List V) (k : V → Int × Int × Int), vs = [V.ref a] ∧ SqL K H a xs ∧ (∀ x ∈ xs, ∃ t b, x = V.ref t ∧ SqT K H t [.int (k x).1, .ref b] ∧ SqT K H b [.int (k x).2.1, .int (k x).2.2]) ∧
  (∀ x ∈ xs, ∀ y ∈ xs, (k x).1 = (k y).1 → (k x).2 = (k y).2) ∧ ∀ ys p, SrtO.Srtd (ltV k) ys → SrtO.Stb (ltV k) ys xs → H p = none → Q (.ref p) (upd H p (.lst ys))
section
variable {X : Cx}
theorem cr_sortK (hu : X.A.in1.in1.units < cLine) : CallR X (.builtin "sorted") (rSortK X.K) := by
  intro pins s σ H vs us Q I r h
  obtain ⟨a, xs, k, rfl, hs, hx, hq, q⟩ := h
  obtain ⟨its, rv, hl, hz⟩ := I.list hs
  obtain ⟨u, rfl, ru⟩ := r.one
  cases (show u = Value.ref a from ru)
  obtain ⟨e1, e2⟩ := refs_back rv fun x m => by
    obtain ⟨t, b, e, _⟩ := hx x m
    exact ⟨t, e⟩
  have hm : ∀ v ∈ its, backV v ∈ xs := fun v hv => by
    rw [e1]
    exact List.mem_map.mpr ⟨v, hv, rfl⟩
  refine sorted_kp (k := fun u => k (backV u)) hu hl.isList (by rw [← rv.length]; exact hz) (fun v hv => ?_) (fun v hv u hu' => hq _ (hm v hv) _ (hm u hu')) fun h' d out h1 h2 kp hd hn => ?_
  · obtain ⟨t, rfl⟩ := e2 v hv
    obtain ⟨t', b, e, h1, h2⟩ := hx _ (hm _ hv)
    cases e
    obtain ⟨its1, r1, ⟨o1, p1, p2, n1, p3⟩, _⟩ := I.tuple h1
    obtain ⟨its2, r2, ⟨o2, p4, p5, n2, p6⟩, _⟩ := I.tuple h2
    obtain ⟨u1, u2, rfl, ⟨t1, rfl⟩, rj⟩ := vals2 r1
    obtain ⟨u3, u4, rfl, ⟨t3, rfl⟩, ⟨t4, rfl⟩⟩ := vals2 r2
    cases (show u2 = Value.ref b from rj)
    exact ⟨t, b, o1, o2, t1, t3, t4, n1, n2, rfl, p1, p2, p3, p4, p5, p6⟩
  · have h3 : ∀ u ∈ out, ∃ a, u = Value.ref a := fun u hu => e2 u (h2.perm.mem_iff.mp hu)
    obtain ⟨n, hn⟩ := hn
    have hb : SrtO.Stb (ltV k) (out.map backV) xs := by
      rw [e1]
      exact SrtO.Stb.map (ltV_swo k) backV h2
    refine ⟨.ref d, upd H d (.lst (out.map backV)), I.laid (t' := s.toks) kp hd ⟨?_, out, n, vals_back h3, hn⟩, rfl, q _ d (SrtO.srtd_map h1) hb (I.hok.fresh hd)⟩
    rw [hb.len]
    exact hz
end
section
variable {α β : Type}
def insK (f : α → Int) (x : α) : List α → List α
  | [] => [x]
  | y :: r => if f x ≤ f y then x :: y :: r else y :: insK f x r
def sortK (f : α → Int) : List α → List α
  | [] => []
  | x :: r => insK f x (sortK f r)
theorem insK_perm (f : α → Int) (x : α) : ∀ l : List α, (insK f x l).Perm (x :: l)
  | [] => List.Perm.refl _
  | y :: r => by
    unfold insK
    split
    · exact List.Perm.refl _
    · exact ((insK_perm f x r).cons y).trans (List.Perm.swap x y r)
theorem sortK_perm (f : α → Int) : ∀ l : List α, (sortK f l).Perm l
  | [] => List.Perm.refl _
  | x :: r => (insK_perm f x _).trans ((sortK_perm f r).cons x)
theorem insK_sorted (f : α → Int) (x : α) : ∀ {l : List α}, l.Pairwise (fun a b => f a ≤ f b) → (insK f x l).Pairwise (fun a b => f a ≤ f b)
  | [], _ => List.pairwise_singleton _ _
  | y :: r, h => by
    unfold insK
    obtain ⟨h1, h2⟩ := List.pairwise_cons.mp h
    split
    · rename_i hxy
      refine List.pairwise_cons.mpr ⟨fun z hz => ?_, h⟩
      rcases List.mem_cons.mp hz with rfl | hz
      · exact hxy
      · exact Int.le_trans hxy (h1 z hz)
    · rename_i hxy
      refine List.pairwise_cons.mpr ⟨fun z hz => ?_, insK_sorted f x h2⟩
      rcases List.mem_cons.mp ((insK_perm f x r).mem_iff.mp hz) with rfl | hz
      · omega
      · exact h1 z hz
theorem sortK_sorted (f : α → Int) : ∀ l : List α, (sortK f l).Pairwise (fun a b => f a ≤ f b)
  | [] => List.Pairwise.nil
  | x :: r => insK_sorted f x (sortK_sorted f r)
theorem insK_filter (f : α → Int) (c : Int) (x : α) : ∀ l : List α, (insK f x l).filter (fun y => f y == c) = (x :: l).filter (fun y => f y == c)
  | [] => rfl
  | y :: r => by
    unfold insK
    split
    · rfl
    · rename_i hxy
      have ih := insK_filter f c x r
      by_cases hx : f x = c
      · have hy : ¬ f y = c := by omega
        rw [List.filter_cons_of_neg (by simpa using hy), ih, List.filter_cons_of_pos (by simpa using hx), List.filter_cons_of_pos (by simpa using hx), List.filter_cons_of_neg (by simpa using hy)]
      · rw [List.filter_cons_of_neg (a := x) (by simpa using hx), List.filter_cons, List.filter_cons, ih, List.filter_cons_of_neg (a := x) (by simpa using hx)]
theorem sortK_filter (f : α → Int) (c : Int) : ∀ l : List α, (sortK f l).filter (fun y => f y == c) = l.filter (fun y => f y == c)
  | [] => rfl
  | x :: r => by
    show (insK f x (sortK f r)).filter _ = _
    rw [insK_filter, List.filter_cons, List.filter_cons, sortK_filter f c r]
theorem insK_map (f : β → Int) (g : α → β) (x : α) : ∀ l : List α, (insK (fun a => f (g a)) x l).map g = insK f (g x) (l.map g)
  | [] => rfl
  | y :: r => by
    unfold insK
    rw [List.map_cons]
    split
    · rename_i h
      simp only [h, if_true, List.map_cons]
    · rename_i h
      simp only [h, if_false, List.map_cons, insK_map f g x r]
theorem sortK_map (f : β → Int) (g : α → β) : ∀ l : List α, (sortK (fun a => f (g a)) l).map g = sortK f (l.map g)
  | [] => rfl
  | x :: r => by
    show (insK _ x (sortK _ r)).map g = insK f (g x) (sortK f (r.map g))
    rw [insK_map, sortK_map f g r]
end
def keyD : D → Int
  | .tup (.int x :: _) => x
  | _ => 0
def kpD : D → Option (Int × Int × Int)
  | .tup [.int x, .tup [.int p, .int q]] => some (x, p, q)
  | _ => none
def kpDs : List D → Option (List (Int × Int × Int))
  | [] => some []
  | d :: ds => match kpD d, kpDs ds with
    | some a, some as => some (a :: as)
    | _, _ => none
/-- alike in the first: alike -/
def okKP : List (Int × Int × Int) → Bool
  | [] => true
  | a :: r => r.all (fun b => !(a.1 == b.1) || (a.2.1 == b.2.1 && a.2.2 == b.2.2)) && okKP r
theorem okKP_ok : ∀ {l : List (Int × Int × Int)}, okKP l = true → ∀ a ∈ l, ∀ b ∈ l, a.1 = b.1 → a.2 = b.2
  | [], _, a, ha, _, _, _ => by simp at ha
  | c :: r, h, a, ha, b, hb, e => by
    unfold okKP at h
    rw [Bool.and_eq_true, List.all_eq_true] at h
    obtain ⟨h1, h2⟩ := h
    have key : ∀ b ∈ r, c.1 = b.1 → c.2 = b.2 := fun b hb e => by
      have z := h1 b hb
      simp only [e, beq_self_eq_true, Bool.not_true, Bool.false_or, Bool.and_eq_true, beq_iff_eq] at z
      exact Prod.ext z.1 z.2
    rcases List.mem_cons.mp ha with ea | ha'
    · rcases List.mem_cons.mp hb with eb | hb'
      · rw [ea, eb]
      · rw [ea] at e ⊢
        exact key b hb' e
    · rcases List.mem_cons.mp hb with eb | hb'
      · rw [eb] at e ⊢
        exact (key a ha' e.symm).symm
      · exact okKP_ok h2 a ha' b hb' e
def cbSorted : List D → Option R
  | [d] => match seqL d with
    | some ds => match kpDs ds with
      | some l => if okKP l then some (.ol (sortK keyD ds)) else none
      | none => none
    | none => none
  | _ => none
where seqL : D → Option (List D)
  | .lst ds => some ds
  | .frz ds => some ds
  | _ => none
section
variable {K : PySem.W.Frag}
theorem zip_drs {H : Hp} : ∀ {vs : List V} {ds : List D}, DRs K H vs ds → ∀ p ∈ vs.zip ds, DR K H p.1 p.2
  | _, _, .nil, p, h => by simp at h
  | _, _, .cons a t, p, h => by
    rw [List.zip_cons_cons, List.mem_cons] at h
    rcases h with rfl | h
    · exact a
    · exact zip_drs t p h
theorem drs_of {H : Hp} : ∀ {l : List (V × D)}, (∀ p ∈ l, DR K H p.1 p.2) → DRs K H (l.map (·.1)) (l.map (·.2))
  | [], _ => .nil
  | p :: l, h => .cons (h p List.mem_cons_self) (drs_of fun q hq => h q (List.mem_cons_of_mem _ hq))
theorem DRs.zips {H : Hp} : ∀ {vs : List V} {ds : List D}, DRs K H vs ds → (vs.zip ds).map (·.1) = vs ∧ (vs.zip ds).map (·.2) = ds
  | _, _, .nil => ⟨rfl, rfl⟩
  | _, _, .cons a t => by
    obtain ⟨h1, h2⟩ := DRs.zips t
    exact ⟨by rw [List.zip_cons_cons, List.map_cons, h1], by rw [List.zip_cons_cons, List.map_cons, h2]⟩
theorem kpDs_mem : ∀ {ds : List D} {l : List (Int × Int × Int)}, kpDs ds = some l → ∀ d ∈ ds, ∃ a ∈ l, kpD d = some a
  | [], _, _, d, h => by simp at h
  | e :: ds, l, h, d, hd => by
    unfold kpDs at h
    split at h
    case h_2 => cases h
    rename_i a as h1 h2
    cases h
    rcases List.mem_cons.mp hd with rfl | hd
    · exact ⟨a, List.mem_cons_self, h1⟩
    · obtain ⟨b, hb, e⟩ := kpDs_mem h2 d hd
      exact ⟨b, List.mem_cons_of_mem _ hb, e⟩
theorem kpD_key {d : D} {a : Int × Int × Int} (h : kpD d = some a) : keyD d = a.1 := by
  unfold kpD at h
  split at h
  · cases h; rfl
  · cases h
/-- the value's own key: that of the data behind it -/
theorem key_of {H : Hp} {v : V} {d : D} {a : Int × Int × Int} (h : DR K H v d) (e : kpD d = some a) : ∃ t b, v = .ref t ∧ SqT K H t [.int a.1, .ref b] ∧ SqT K H b [.int a.2.1, .int a.2.2] := by
  unfold kpD at e
  split at e
  case h_2 => cases e
  cases e
  cases h with
  | tup h1 d1 =>
    cases d1 with
    | cons a1 d1 =>
      cases d1 with
      | cons a2 d1 =>
        cases d1
        cases a1
        cases a2 with
        | tup h2 d2 =>
          cases d2 with
          | cons b1 d2 =>
            cases d2 with
            | cons b2 d2 =>
              cases d2
              cases b1
              cases b2
              exact ⟨_, _, rfl, h1, h2⟩
theorem sortK_congr {α : Type} {f g : α → Int} : ∀ {l : List α}, (∀ x ∈ l, f x = g x) → sortK f l = sortK g l := by
  have ins : ∀ {x : α} {l : List α}, f x = g x → (∀ y ∈ l, f y = g y) → insK f x l = insK g x l := fun {x l} hx h => by
    induction l with
    | nil => rfl
    | cons y r ih =>
      unfold insK
      rw [hx, h y List.mem_cons_self, ih fun z hz => h z (List.mem_cons_of_mem _ hz)]
  intro l h
  induction l with
  | nil => rfl
  | cons x r ih =>
    show insK f x (sortK f r) = insK g x (sortK g r)
    rw [ih fun z hz => h z (List.mem_cons_of_mem _ hz)]
    exact ins (h x List.mem_cons_self) fun y hy => h y (List.mem_cons_of_mem _ ((sortK_perm g r).mem_iff.mp hy))
theorem sortK_uniq {k : V → Int × Int × Int} {ys xs : List V} (h1 : SrtO.Srtd (ltV k) ys) (h2 : SrtO.Stb (ltV k) ys xs) : ys = sortK (fun v => (k v).1) xs := by
  have s1 : SrtO.Srtd (ltV k) (sortK (fun v => (k v).1) xs) := (sortK_sorted (fun v => (k v).1) xs).imp fun {a b} h => decide_eq_false (by omega)
  have s2 : SrtO.Stb (ltV k) (sortK (fun v => (k v).1) xs) xs := by
    refine ⟨sortK_perm _ _, fun x => ?_⟩
    have e : SrtO.eqv (ltV k) x = fun y => (k y).1 == (k x).1 := funext fun y => by
      unfold SrtO.eqv
      by_cases h : (k y).1 = (k x).1
      · simp [h]
      · have : (k x).1 < (k y).1 ∨ (k y).1 < (k x).1 := by omega
        have hb : ((k y).1 == (k x).1) = false := beq_eq_false_iff_ne.mpr h
        rcases this with z | z
        · have e1 : ltV k x y = true := decide_eq_true z
          show (!ltV k x y && !ltV k y x) = ((k y).1 == (k x).1)
          rw [e1, hb]
          rfl
        · have e1 : ltV k y x = true := decide_eq_true z
          show (!ltV k x y && !ltV k y x) = ((k y).1 == (k x).1)
          rw [e1, hb, Bool.not_true, Bool.and_false]
    rw [e]
    exact sortK_filter (fun v => (k v).1) _ xs
  refine SrtO.stb_uniq (ltV_swo k) h1 s1 ⟨h2.perm.trans s2.perm.symm, fun x => (h2.cls x).trans (s2.cls x).symm⟩
def rSortP (K : PySem.W.Frag) : List V → Hp → VK → Prop := fun vs H Q => ∃ (a : Addr) (ps : List (V × Int × Int × Int)), vs = [V.ref a] ∧ SqL K H a (ps.map (·.1)) ∧ (∀ p ∈ ps, ∃ t b, p.1 = V.ref t ∧ SqT K H t [.int p.2.1, .ref b] ∧ SqT K H b [.int p.2.2.1, .int p.2.2.2]) ∧
  (∀ p ∈ ps, ∀ q ∈ ps, p.2.1 = q.2.1 → p.2.2 = q.2.2) ∧ ∀ p, H p = none → Q (.ref p) (upd H p (.lst ((sortK (fun p => p.2.1) ps).map (·.1))))
theorem cr_sortP {X : Cx} (hu : X.A.in1.in1.units < cLine) : CallR X (.builtin "sorted") (rSortP X.K) := by
  intro pins s σ H vs us Q I r h
  obtain ⟨a, ps, rfl, hs, hx, hq, q⟩ := h
  open Classical in
  let k : V → Int × Int × Int := fun v => if h : ∃ p ∈ ps, p.1 = v then h.choose.2 else (0, 0, 0)
  have hk : ∀ p ∈ ps, k p.1 = p.2 := fun p hp => by
    have hh : ∃ p' ∈ ps, p'.1 = p.1 := ⟨p, hp, rfl⟩
    have e : k p.1 = hh.choose.2 := dif_pos hh
    obtain ⟨m1, m2⟩ := hh.choose_spec
    rw [e]
    generalize hh.choose = p' at m1 m2
    obtain ⟨t, b, e1, h1, h2⟩ := hx p hp
    obtain ⟨t', b', e1', h1', h2'⟩ := hx p' m1
    rw [m2, e1] at e1'
    cases e1'
    have z := I.tuple_inj h1 h1'
    simp only [List.cons.injEq, V.int.injEq, V.ref.injEq, and_true] at z
    obtain ⟨z1, z2⟩ := z
    subst z2
    have y := I.tuple_inj h2 h2'
    simp only [List.cons.injEq, V.int.injEq, and_true] at y
    exact Prod.ext z1.symm (Prod.ext y.1.symm y.2.symm)
  refine cr_sortK hu pins s σ H _ us Q I r ⟨a, ps.map (·.1), k, rfl, hs, fun x hm => ?_, fun x hm y hm' e => ?_, fun ys p h1 h2 hp => ?_⟩
  · obtain ⟨p, hp, rfl⟩ := List.mem_map.mp hm
    obtain ⟨t, b, e, h1, h2⟩ := hx p hp
    rw [hk p hp]
    exact ⟨t, b, e, h1, h2⟩
  · obtain ⟨p, hp, rfl⟩ := List.mem_map.mp hm
    obtain ⟨p', hp', rfl⟩ := List.mem_map.mp hm'
    rw [hk p hp, hk p' hp'] at e ⊢
    exact hq p hp p' hp' e
  · have e : ys = (sortK (fun p => p.2.1) ps).map (·.1) := by
      rw [sortK_uniq h1 h2, ← sortK_map (fun v => (k v).1) (fun p : V × Int × Int × Int => p.1) ps]
      exact congrArg _ (sortK_congr fun p hp => by rw [hk p hp])
    rw [e]
    exact q p hp
theorem cd_sorted : CbD K (rSortP K) cbSorted := fun H Hs xs ds res s h e Q k => by
  unfold cbSorted at e
  split at e
  case h_2 => cases e
  rename_i d
  split at e
  case h_2 => cases e
  rename_i es hes
  split at e
  case h_2 => cases e
  rename_i l hl
  split at e
  case isFalse => cases e
  rename_i hok
  cases e
  have hsq : ∃ a vs, xs = [V.ref a] ∧ SqL K Hs a vs ∧ DRs K Hs vs es := by
    cases h with
    | cons a b =>
      cases b
      unfold cbSorted.seqL at hes
      split at hes
      · cases hes
        cases a with
        | lst h1 d1 => exact ⟨_, _, rfl, SqL.of h1, d1⟩
      · cases hes
        cases a with
        | frz h1 d1 => exact ⟨_, _, rfl, h1, d1⟩
      · cases hes
  obtain ⟨a, vs, rfl, hq, hd⟩ := hsq
  obtain ⟨z1, z2⟩ := hd.zips
  have hm : ∀ p ∈ vs.zip es, ∃ c ∈ l, kpD p.2 = some c := fun p hp => kpDs_mem hl _ (by rw [← z2]; exact List.mem_map.mpr ⟨p, hp, rfl⟩)
  let g : V × D → V × Int × Int × Int := fun p => (p.1, (kpD p.2).getD (0, 0, 0))
  have eg : ∀ p, (g p).1 = p.1 := fun _ => rfl
  have hg : ∀ p ∈ vs.zip es, ∃ c ∈ l, kpD p.2 = some c ∧ (g p).2 = c := fun p hp => by
    obtain ⟨c, c1, c2⟩ := hm p hp
    exact ⟨c, c1, c2, by show (kpD p.2).getD _ = c; rw [c2]; rfl⟩
  refine ⟨a, (vs.zip es).map g, rfl, ?_, fun p hp => ?_, fun p hp p' hp' ee => ?_, fun p hp => ?_⟩
  · have : ((vs.zip es).map g).map (·.1) = vs := by
      rw [List.map_map]
      exact z1
    rw [this]
    exact same_lst s hq
  · obtain ⟨p0, hp0, rfl⟩ := List.mem_map.mp hp
    obtain ⟨c, c1, c2, c3⟩ := hg p0 hp0
    obtain ⟨t, b, e1, h1, h2⟩ := key_of (zip_drs hd p0 hp0) c2
    rw [c3]
    exact ⟨t, b, e1, same_tup s h1, same_tup s h2⟩
  · obtain ⟨p0, hp0, rfl⟩ := List.mem_map.mp hp
    obtain ⟨p1, hp1, rfl⟩ := List.mem_map.mp hp'
    obtain ⟨c, c1, c2, c3⟩ := hg p0 hp0
    obtain ⟨c', c1', c2', c3'⟩ := hg p1 hp1
    rw [c3, c3'] at ee ⊢
    exact okKP_ok hok c c1 c' c1' ee
  · have e1 : (sortK (fun p : V × Int × Int × Int => p.2.1) ((vs.zip es).map g)).map (·.1) = (sortK (fun p : V × D => keyD p.2) (vs.zip es)).map (·.1) := by
      rw [← sortK_map (fun p : V × Int × Int × Int => p.2.1) g (vs.zip es), List.map_map]
      rw [show ((fun x : V × Int × Int × Int => x.1) ∘ g) = (fun p : V × D => p.1) from rfl]
      refine congrArg _ (sortK_congr fun p hp => ?_)
      obtain ⟨c, c1, c2, c3⟩ := hg p hp
      rw [c3, kpD_key c2]
    have e2 : (sortK (fun p : V × D => keyD p.2) (vs.zip es)).map (·.2) = sortK keyD es := by
      rw [sortK_map keyD (fun p : V × D => p.2) (vs.zip es), z2]
    have hdr : DRs K Hs ((sortK (fun p : V × D => keyD p.2) (vs.zip es)).map (·.1)) (sortK keyD es) := by
      rw [← e2]
      exact drs_of fun p hp => zip_drs hd p ((sortK_perm _ _).mem_iff.mp hp)
    rw [e1]
    exact k _ _ Hs (Ext.hid s hp) ⟨p, _, rfl, hp, upd_same, none_sub s hp, _, rfl, hdr⟩
end
end Bk
namespace Bk
open PySem L2
/-- a method of the text with defaults -/
structure FnMD (K : PySem.W.Frag) (C : Addr) (x qual : PySem.Str) (st : Stmt) (dds : List D) where
  f : Addr
  fd : FuncData
  dvs : List V
  F : FunD K x qual (defArgs st) (defBody st) (defScope st) dvs [] f fd
  m : Meth K C x f
  d : ∀ H, DRs K H dvs dds
section
variable {P : Program} {w : World} {K : PySem.W.Frag} {mg : PySem.Str → Option Value} {base : Heap}
theorem data_BD {x qual : PySem.Str} {st : Stmt} {f : Addr} {fd : FuncData} {dvs : List V} {N ps : List PySem.Str} {k : Nat} {b : MS} (F : FunD K x qual (defArgs st) (defBody st) (defScope st) dvs [] f fd) (S : FnScope N ps (defScope st))
    (hb : ∀ (cdv : Value) (A : Around) (outer : List Env) (s : Shared) (H : Hp) (E : XK), Room k (A.deeper (PyProof.Rows.envOfC qual (defScope st) s.heap.objs.size f cdv)) →
      ∃ t, PSs (cxOf CX0 P w K mg base N qual (defScope st) f cdv A outer s H E).nox (defBody st) t ∧ SOk K t b) : FnOk P w K mg base CX0 (k + 1) f fd ps (spB K (runB ps.length N.length b)) :=
  F.ok S (fun vs H Q E q => spB_len q) fun cdv A outer s H vs Q E hr q => by
    obtain ⟨t, h1, h2⟩ := hb cdv A outer s H E hr
    exact ⟨t, PSs.nox h1, fin_B h2 (scope_le S) q⟩
end
section
variable {K : PySem.W.Frag} {mg : PySem.Str → Option Value}
theorem drs_drop {H : Hp} {vs : List V} {ds : List D} (h : DRs K H vs ds) (n : Nat) : DRs K H (vs.drop n) (ds.drop n) := h.drop n
variable {X : Cx} (hK : X.K = K)
include hK
theorem kop_addB : OpR X (binaryOp .Add) (rAddB K) := hK ▸ op_addB
theorem ksl_B : SlR X (rSlB K) := hK ▸ sl_B
theorem kpa_star {e : Expr} {es : List Expr} {te : TE} {t : TA} {p : Pos} (he : PE X e te) (hr : PA X es t) (hs : starEach (.Starred e p :: es) X.env = (true, eval e X.env) :: starEach es X.env := by rfl) : PA X (.Starred e p :: es) (StX.tStar K te t) := hK ▸ StX.pa_star he hr hs
theorem kpe_fld {e : Expr} {f : PySem.Str} {pos : Pos} {ta : TE} (he : PE X e ta) (hb : attributeBase e f X.env (eval e X.env) = eval e X.env) : PE X (.Attribute e f pos) (tFld K ta f) := hK ▸ pe_fld he hb
theorem kps_fld {o value : Expr} {f : PySem.Str} {pos pos' : Pos} {ta tv : TE} (ha : PE X o ta) (hv : PE X value tv) (hs : swapsWith value (some (.Attribute o f pos')) pos.line X.env = pure false) : PS X (.Assign [.Attribute o f pos'] value pos) (sFld K ta tv f) := hK ▸ ps_fld ha hv hs
theorem kpg_fld {o : Expr} {f : PySem.Str} {pos : Pos} {ta : TE} (ho : PE X o ta) : PG X (.Attribute o f pos) (gFld K ta f) := hK ▸ pg_fld ho
theorem kcr_isiS : CallR X (.builtin "isinstance") (rIsiS K) := hK ▸ cr_isiS
theorem kcr_sorted (hu : X.A.in1.in1.units < cLine) : CallR X (.builtin "sorted") (rSortP K) := hK ▸ cr_sortP hu
end
theorem room_u2 {k : Nat} {A : Around} (hr : Room k A) : A.in1.in1.units < cLine := by
  have := hr.units
  show A.units + 1 + 1 < cLine
  omega
end Bk
namespace Bk
open PySem L2
section
variable {K : PySem.W.Frag} {C : Addr}
theorem na_list1 {a : PySem.Str} (h1 : NoAttr K C a) : ∀ f ∈ [a], NoAttr K C f := fun f h => by
  rw [List.mem_singleton] at h
  rw [h]
  exact h1
theorem na_cons {a : PySem.Str} {l : List PySem.Str} (h1 : NoAttr K C a) (h : ∀ f ∈ l, NoAttr K C f) : ∀ f ∈ a :: l, NoAttr K C f := fun f hf => by
  rcases List.mem_cons.mp hf with z | z
  · rw [z]; exact h1
  · exact h f z
theorem na_list2 {a b : PySem.Str} (h1 : NoAttr K C a) (h2 : NoAttr K C b) : ∀ f ∈ [a, b], NoAttr K C f := na_cons h1 (na_list1 h2)
theorem na_list3 {a b c : PySem.Str} (h1 : NoAttr K C a) (h2 : NoAttr K C b) (h3 : NoAttr K C c) : ∀ f ∈ [a, b, c], NoAttr K C f := na_cons h1 (na_list2 h2 h3)
theorem na_list4 {a b c d : PySem.Str} (h1 : NoAttr K C a) (h2 : NoAttr K C b) (h3 : NoAttr K C c) (h4 : NoAttr K C d) : ∀ f ∈ [a, b, c, d], NoAttr K C f := na_cons h1 (na_list3 h2 h3 h4)
theorem vne {vs : List V} {d : D} {ds ds' : List D} (h : ∀ H, DRs K H vs ds) (e : ds = d :: ds') : vs ≠ [] := fun z => by
  have z2 := (h fun _ => none).len
  rw [z, e] at z2
  cases z2
end
end Bk
namespace Bk
open PySem L2
def opInB (neg : Bool) (x y : D) : Option R := match opIn neg x y with
  | some r => some r
  | none => match toPy x, toPy y with
    | some p, some (.list ps) => if SeqAt.shaped p && SeqAt.shaped (.list ps) then some (.im (.bl (if neg then !(ps.any fun z => PyData.eqv z p) else ps.any fun z => PyData.eqv z p))) else none
    | _, _ => none
section
variable {K : PySem.W.Frag}
def rInB (K : PySem.W.Frag) (neg : Bool) : R2 := fun x y H Q => rInA K neg x y H Q ∨ (if neg then rNotInD K x y H Q else rInD K x y H Q)
theorem kop_notInB {X : Cx} (hK : X.K = K) (hu : X.A.units + 70 < cLine) : OpR X (compareOp .NotIn) (rInB K true) := hK ▸ (op_notInA.or (op_notInD (by omega)))
theorem od_inB {neg : Bool} : OpD K (rInB K neg) (opInB neg) := fun H Hs x y dx dy res s hx hy e Q k => by
  unfold opInB at e
  split at e
  · rename_i r h
    cases e
    exact .inl (od_in H Hs x y dx dy _ s hx hy h Q k)
  · split at e
    case h_2 => cases e
    rename_i p ps h1 h2
    split at e
    case isFalse => cases e
    rename_i hok
    cases e
    rw [Bool.and_eq_true] at hok
    refine .inr ?_
    cases neg
    · exact ⟨p, ps, dp_mono s hx h1, dp_mono s hy h2, hok.1, hok.2, k _ H Hs (Ext.refl s) (.bl _)⟩
    · exact ⟨p, ps, dp_mono s hx h1, dp_mono s hy h2, hok.1, hok.2, k _ H Hs (Ext.refl s) (.bl _)⟩
end
end Bk
namespace Bk
open PySem L2 PySem.Spec PyProof.Rows HT
section
variable {prog : Program} {w : World} {A : Around} {E : Value → Shared → Prop} {s : Shared}
theorem rng_pick {α : Type} : ∀ r : List α, (List.range r.length).filterMap (fun k => r[k]?) = r
  | [] => rfl
  | a :: r => by
    rw [List.length_cons, List.range_succ_eq_map, List.filterMap_cons, List.filterMap_map]
    show a :: (List.range r.length).filterMap (fun k => r[k]?) = a :: r
    rw [rng_pick r]
theorem pick_rev9 (l : List Value) : ((List.range l.length).filterMap fun (k : Nat) => l.toArray[(((l.length : Int) - 1) + (k : Int) * (-1)).toNat]?) = l.reverse := by
  have e := rng_pick l.reverse
  rw [List.length_reverse] at e
  conv => rhs; rw [← e]
  have key : ∀ m : List Nat, (∀ k ∈ m, k < l.length) → m.filterMap (fun (k : Nat) => l.toArray[(((l.length : Int) - 1) + (k : Int) * (-1)).toNat]?) = m.filterMap fun k => l.reverse[k]? := fun m hm => by
    induction m with
    | nil => rfl
    | cons k m ih =>
      have hk := hm k List.mem_cons_self
      have e1 : l.toArray[(((l.length : Int) - 1) + (k : Int) * (-1)).toNat]? = l.reverse[k]? := by
        rw [List.getElem?_reverse hk, show (((l.length : Int) - 1) + (k : Int) * (-1)).toNat = l.length - 1 - k by omega]
        simp
      rw [List.filterMap_cons, List.filterMap_cons, e1, ih fun j hj => hm j (List.mem_cons_of_mem _ hj)]
  exact key _ fun k hk => List.mem_range.mp hk
theorem sliceApplied_back {sl : Addr} {vl vu vs : Value} {n : Nat} {Q : Int × Int × Nat → Shared → Prop} (hs : s.heap.IsSliceOf sl vl vu vs) (pl : IsPart vl none) (pu : IsPart vu none) (ps : IsPart vs (some (-1)))
    (h : Q ((n : Int) - 1, -1, n) s) : wpAny (model prog w) A (Builtin.Slice.sliceApplied (.ref sl) (pure (n : Int))) Q E s := by
  obtain ⟨os, hos, hcs, hds⟩ := id hs
  unfold Builtin.Slice.sliceApplied Builtin.Slice.sliceFields
  refine wpAny_bind (wpAny_bind (wpAny_field hos hds (x := vl) rfl (wpAny_bind (wpAny_field hos hds (x := vu) rfl (wpAny_bind (wpAny_field hos hds (x := vs) rfl (wpAny_pure ?_)))))))
  refine wpAny_bind (slicePart_ ps ?_)
  show wpAny _ _ (if ((-1 : Int) == 0) = true then _ else _) _ _ s
  rw [if_neg (by decide)]
  refine wpAny_bind (slicePart_ pl (wpAny_bind (slicePart_ pu (wpAny_bind (wpAny_pure ?_)))))
  have e1 : Builtin.Slice.sliceAdjust none none (-1) (n : Int) = ((n : Int) - 1, -1) := rfl
  have e2 : Builtin.Slice.slicePlaces ((n : Int) - 1) (-1) (-1) = n := by
    unfold Builtin.Slice.slicePlaces
    rw [if_neg (by decide)]
    rw [show (- -1 : Int) = 1 from rfl, Int.ediv_one]
    split
    · omega
    · omega
  show wpAny _ _ (match Builtin.Slice.sliceAdjust none none (-1) (n : Int) with | (lo, hi) => pure (lo, (-1 : Int), Builtin.Slice.slicePlaces lo hi (-1))) _ _ s
  rw [e1]
  show wpAny _ _ (pure ((n : Int) - 1, (-1 : Int), Builtin.Slice.slicePlaces ((n : Int) - 1) (-1) (-1))) _ _ s
  rw [e2]
  exact wpAny_pure h
theorem getItem_tuple_back {t sl : Addr} {its : List Value} {vl vu vs : Value} {Q : Value → Shared → Prop} (ht : IsTup s.heap t its.toArray) (hs : s.heap.IsSliceOf sl vl vu vs) (pl : IsPart vl none) (pu : IsPart vu none) (ps : IsPart vs (some (-1)))
    (h : Q (.ref s.heap.objs.size) { s with heap := s.heap.push { cls := .type "tuple", data := .seq its.reverse.toArray } })
    (hz : its.length ≤ sizeLine) : wpAny (model prog w) A (getItem (.ref t) (.ref sl)) Q E s := by
  have fits : sizeOk (.seq its.reverse.toArray) := by
    show its.reverse.toArray.size ≤ sizeLine
    rw [List.size_toArray, List.length_reverse]
    exact hz
  obtain ⟨os, hos, hcs, hds⟩ := id hs
  have hTs : s.TypeIs (.ref sl) "slice" := ⟨os, hos, hcs⟩
  unfold getItem
  try with_reducible refine wpAny_holding ?_
  first | refine wpAny_bind (wpAny_pure ?_) | skip
  refine wpAny_bind (wpAny_sequenceKey ht.typeIs (by decide) ?_)
  refine wpAny_bind (wpAny_callSpecial?_slot (name := Str.ofString "__getitem__") ht.typeIs PyProof.Rows.slot_tuple_getitem (wpAny_call_entry PyProof.Rows.slot_tuple_getitem ht.typeIs entry_tuple_getitem ?_ (args_tuple_getitem _ _)))
  show wpAny _ _ (Builtin.Tuple.tupleItemsOf (.ref t) >>= _) _ _ s
  refine wpAny_bind (tupleItemsOf_ ht ?_)
  refine wpAny_bind (wpAny_typeOf hTs ?_)
  rw [if_pos (by decide)]
  refine wpAny_bind (sliceApplied_back (n := its.toArray.size) hs pl pu ps ?_)
  show wpAny _ _ (if (((its.toArray.size : Int) - 1) == 0 && (-1 : Int) == 1 && its.toArray.size == its.toArray.size) = true then _ else _) _ _ s
  rw [if_neg (by rw [show ((-1 : Int) == 1) = false from rfl, Bool.and_false, Bool.false_and]; decide)]
  have e : ((List.range its.toArray.size).filterMap fun (k : Nat) => its.toArray[(((its.toArray.size : Nat) : Int) - 1 + (k : Int) * (-1)).toNat]?) = its.reverse := by
    rw [List.size_toArray]
    exact pick_rev9 its
  rw [e]
  first
    | exact wpAny_bind (m := Builtin.Tuple.tupleExact _) (wpAny_newObj_type (wpAny_pure ⟨_, rfl, wpAny_pure h⟩) fits)
    | exact wpAny_bind (m := Builtin.Tuple.tupleExact _) (wpAny_newObj_type (wpAny_bind (wpAny_pure (wpAny_pure ⟨_, rfl, wpAny_pure h⟩))) fits)
    | exact wpAny_bind (wpAny_bind (m := Builtin.Tuple.tupleExact _) (wpAny_newObj_type (wpAny_pure (wpAny_pure ⟨_, rfl, wpAny_pure h⟩)) fits))
    | exact wpAny_bind (wpAny_bind (m := Builtin.Tuple.tupleExact _) (wpAny_newObj_type (wpAny_pure ⟨_, rfl, wpAny_pure h⟩) fits))
end
section
variable {X : Cx} {K : PySem.W.Frag}
/-- xs[::k], k reckoned to be -1: a list or a tuple -/
def tRevA (K : PySem.W.Frag) (te tk : TE) : TE := fun σ H Q => te σ H fun x H1 => tk σ H1 fun y H2 => y = .int (-1) ∧ (some (-1 : Int) = some (-1) ∧ ∃ a xs, x = .ref a ∧ ((SqL K H2 a xs ∧ ∀ p, H2 p = none → Q (.ref p) (upd H2 p (.lst xs.reverse))) ∨ (SqT K H2 a xs ∧ ∀ p, H2 p = none → Q (.ref p) (upd H2 p (.tup xs.reverse)))))
theorem pe_revA {e st : Expr} {te tk : TE} {p3 pos : Pos} (he : PE X e te) (hk : PE X st tk) :
    PE X (.Subscript e (.Slice none none (some st) p3) pos) (tRevA X.K te tk) := by
  refine ⟨fun pins s σ H Q I h => ?_⟩
  refine Subscript_ (thn (he.run pins s σ H _ I h) fun v s1 ⟨x, H1, I1, r1, q1⟩ => ?_)
  refine wpAny_Slice (thn (po_none.run pins s1 σ H1 (fun o H2 => o = none ∧ H2 = H1) I1 ⟨rfl, rfl⟩) fun vl s2 ⟨l, H2, I2, pl, el, e2⟩ => ?_)
  subst el e2
  refine thn (po_none.run pins s2 σ H2 (fun o H3 => o = none ∧ H3 = H2) I2 ⟨rfl, rfl⟩) fun vu s3 ⟨u, H3, I3, pu, eu, e3⟩ => ?_
  subst eu e3
  have hst : PO X (some st) (fun σ H Q => tk σ H fun y H2 => y = .int (-1) ∧ Q (some (-1)) H2) := by
    refine ⟨fun pins s σ H Q I hw => ?_⟩
    rw [evalPart_some]
    refine thn (hk.run pins s σ H _ I hw) fun u s1 ⟨y, H1, I1, r1, q1⟩ => ?_
    obtain ⟨rfl, q⟩ := q1
    obtain ⟨t, rfl⟩ := r1
    exact ⟨some (-1), H1, I1, .int (-1) t, q⟩
  refine thn (hst.run pins s3 σ H3 (fun o H4 => o = some (-1) ∧ ∃ a xs, x = .ref a ∧ ((SqL X.K H4 a xs ∧ ∀ p, H4 p = none → Q (.ref p) (upd H4 p (.lst xs.reverse))) ∨ (SqT X.K H4 a xs ∧ ∀ p, H4 p = none → Q (.ref p) (upd H4 p (.tup xs.reverse))))) I3 q1) fun vs s4 ⟨o, H4, I4, ps, eo, a, xs, ex, alt⟩ => ?_
  subst eo ex
  cases r1
  have I5 : Inv X pins σ H4 { s4 with heap := s4.heap.push { cls := .type "slice", data := .fields #[vl, vu, vs] } } := I4.kept (t' := s4.toks) fun b ob q => Heap.get?_push_of_some _ q
  show wpAny (model X.prog X.w) X.A (subscriptTail e (.Slice none none (some st) p3) (.ref a) (.ref s4.heap.objs.size)) (EP X pins σ Q) X.xe { s4 with heap := s4.heap.push { cls := .type "slice", data := .fields #[vl, vu, vs] } }
  rcases alt with ⟨hx, q⟩ | ⟨hx, q⟩
  · obtain ⟨its, r, ht, hz⟩ := I5.list hx
    have hlen := r.length
    refine tail_any (ops := [.ref a, .ref s4.heap.objs.size]) ht.isList.typeIs (PySem.slot_list_getitem.lookup) ?_ (by with_unfolding_all rfl)
    refine wpAny_getItem_list_slice ht.isList (Heap.IsSliceOf.new _ vl vu vs) pl pu ps (by decide) ?_ (by rw [List.size_toArray]; omega)
    rw [PySem.W.krv_pick]
    refine ⟨.ref _, _, I5.laid (t' := s4.toks) (o := .lst xs.reverse) (fun b ob q => Heap.get?_push_of_some _ q) (Nat.le_refl _) ?_, rfl, q _ (I5.hok.fresh (Nat.le_refl _))⟩
    exact ⟨by rw [List.length_reverse]; exact hz, _, 0, r.reverse, Heap.get?_push_size _ rfl⟩
  · obtain ⟨its, r, ht, hz⟩ := I5.tuple hx
    have hlen := r.length
    refine tail_any (ops := [.ref a, .ref s4.heap.objs.size]) ht.typeIs (PyProof.Rows.slot_tuple_getitem.lookup) ?_ (by with_unfolding_all rfl)
    refine getItem_tuple_back ht (Heap.IsSliceOf.new _ vl vu vs) pl pu ps ?_ (by omega)
    refine ⟨.ref _, _, I5.laid (t' := s4.toks) (o := .tup xs.reverse) (fun b ob q => Heap.get?_push_of_some _ q) (Nat.le_refl _) ?_, rfl, q _ (I5.hok.fresh (Nat.le_refl _))⟩
    exact ⟨by rw [List.length_reverse]; exact hz, _, r.reverse, IsTup.new _ _⟩
theorem kpe_revA (hK : X.K = K) {e st : Expr} {te tk : TE} {p3 pos : Pos} (he : PE X e te) (hk : PE X st tk) : PE X (.Subscript e (.Slice none none (some st) p3) pos) (tRevA K te tk) := hK ▸ pe_revA he hk
def xrevA (a b : M R) : M R := fun G => bd (a G) fun x G1 => bd (b G1) fun y G2 => match x.d, y.d with
  | .lst ds, .int k => if k = -1 then some (.ol ds.reverse, G2) else none
  | .tup ds, .int k => if k = -1 then some (.im (.tup ds.reverse), G2) else none
  | _, _ => none
theorem gk_revA {te tk : TE} {a b : M R} (ha : GOk K te a) (hb : GOk K tk b) : GOk K (tRevA K te tk) (xrevA a b) := fun Fz ba G σ H Hs res G' q e Q k => by
  obtain ⟨x, G1, e1, e⟩ := bd_inv e
  obtain ⟨y, G2, e2, e⟩ := bd_inv e
  refine ha.im q e1 fun v1 H1 Hs1 q1 s1 d1 => ?_
  refine hb.im q1 e2 fun v2 H2 Hs2 q2 s2 d2 => ?_
  split at e
  · rename_i ds n h1 h2
    split at e
    case isFalse => cases e
    rename_i hn
    cases e
    rw [h2] at d2
    rw [h1] at d1
    obtain ⟨a1, x1, rfl, l1, r1⟩ := asL_ok (d1.mono s2) (rfl : asL (.lst ds) = some ds)
    refine ⟨by rw [dr_int d2, hn], rfl, a1, x1, rfl, .inl ⟨same_lst q2.sub l1, fun p hp => ?_⟩⟩
    have ex : Ext H2 Hs2 (upd H2 p (.lst x1.reverse)) Hs2 := Ext.hid q2.sub hp
    have rf : ResF K H2 (upd H2 p (.lst x1.reverse)) Hs2 (.ref p) (.ol ds.reverse) := ⟨p, _, rfl, hp, upd_same, none_sub q2.sub hp, _, rfl, r1.rev⟩
    exact k _ _ _ (q2.ext ex) ((s1.trans s2).trans ex.b) (rf.res q2)
  · rename_i ds n h1 h2
    split at e
    case isFalse => cases e
    rename_i hn
    cases e
    rw [h2] at d2
    rw [h1] at d1
    cases d1.mono s2 with
    | tup l1 r1 =>
      rename_i a1 x1
      refine ⟨by rw [dr_int d2, hn], rfl, a1, x1, rfl, .inr ⟨same_tup q2.sub l1, fun p hp => ?_⟩⟩
      have ex : Ext H2 Hs2 (upd H2 p (.tup x1.reverse)) (upd Hs2 p (.tup x1.reverse)) := Ext.new q2.sub hp
      have rf : ResF K H2 (upd H2 p (.tup x1.reverse)) (upd Hs2 p (.tup x1.reverse)) (.ref p) (.im (.tup ds.reverse)) := .tup (SqT.of upd_same) (r1.rev.mono ex.b)
      exact k _ _ _ (q2.ext ex) ((s1.trans s2).trans ex.b) (rf.res q2)
  · cases e
end
end Bk
namespace Bk
open PySem L2
structure IsU (K : PySem.W.Frag) (C : Addr) : Prop where
  ins : C8.InsC K C
  to : ∀ t ∈ ["int", "bool", "str", "list", "tuple"], PySem.W.kitOne K (.ref C) (.type t) = some false
theorem ut_list {K : PySem.W.Frag} {C : Addr} (h0 : PySem.W.kitOne K (.ref C) (.type "int") = some false) (h1 : PySem.W.kitOne K (.ref C) (.type "bool") = some false) (h2 : PySem.W.kitOne K (.ref C) (.type "str") = some false)
    (h3 : PySem.W.kitOne K (.ref C) (.type "list") = some false) (h4 : PySem.W.kitOne K (.ref C) (.type "tuple") = some false) : ∀ t ∈ ["int", "bool", "str", "list", "tuple"], PySem.W.kitOne K (.ref C) (.type t) = some false := fun t ht => by
  simp only [List.mem_cons, List.not_mem_nil, or_false] at ht
  rcases ht with rfl | rfl | rfl | rfl | rfl
  · exact h0
  · exact h1
  · exact h2
  · exact h3
  · exact h4
def cbIsiU (c : Nat) : List D → Option R
  | [.obj c' ds, .ty t] => if c' = c ∧ t ∈ ["int", "bool", "str", "list", "tuple"] then some (.im (.bl false)) else none
  | xs => cbIsi xs
theorem cd_isiU {K : PySem.W.Frag} {c : Nat} {C : Addr} (hC : CAt K c C) (I : IsU K C) : CbD K (rIsi K) (cbIsiU c) := fun H Hs xs ds res s h e Q k => by
  unfold cbIsiU at e
  split at e
  · split at e
    case isFalse => cases e
    rename_i hc
    obtain ⟨rfl, ht⟩ := hc
    cases e
    cases h with
    | cons a a2 =>
      cases a2 with
      | cons a2 a3 =>
        cases a3
        cases a2
        cases a with
        | obj hc3 hH hn hv hs =>
          cases hc3.eq hC
          exact ⟨_, _, _, _, false, rfl, .ty _, .base (.ins (s _ _ hH) I.ins.cl I.ins.ha I.ins.hn I.ins.htk I.ins.hm), I.to _ ht, k _ H Hs (Ext.refl s) (.bl _)⟩
  · exact cd_isi H Hs xs ds res s h e Q k
end Bk
namespace Bk
open PySem L2 PySem.Builtin PySem.Spec PyProof.Rows
def ZpSt (h : Heap) (z TI TO i1 i2 l1 l2 S : Addr) (xs ys : Array Value) (i : Nat) : Prop :=
  IsPair h TI (.ref i1) (.ref i2) ∧ h.IsListIter i1 l1 i ∧ h.IsListIter i2 l2 i ∧ h.IsList l1 xs ∧ h.IsList l2 ys ∧
    ((IsZip h z TI TO .none ∧ ∃ a b, IsPair h TO a b) ∨ ∃ T f oT, IsZipHeld h z TI TO T f ∧ h.get? T = some oT ∧ T ≠ z ∧ T ≠ i1 ∧ T ≠ i2 ∧ T ≠ S)
theorem ZpSt.frame {h h' : Heap} {z TI TO i1 i2 l1 l2 S : Addr} {xs ys : Array Value} {i : Nat} (st : ZpSt h z TI TO i1 i2 l1 l2 S xs ys i) (ds : S ∉ [z, TI, TO, i1, i2, l1, l2]) (hk : ∀ b o, b ≠ S → h.get? b = some o → h'.get? b = some o) : ZpSt h' z TI TO i1 i2 l1 l2 S xs ys i := by
  obtain ⟨hTI, h1, h2, hl1, hl2, hz⟩ := st
  simp only [List.mem_cons, List.not_mem_nil, or_false, not_or] at ds
  obtain ⟨dz, dTI, dTO, di1, di2, dl1, dl2⟩ := ds
  refine ⟨hk _ _ (Ne.symm dTI) hTI, h1.at fun o e => hk _ o (Ne.symm di1) e, h2.at fun o e => hk _ o (Ne.symm di2) e, hl1.at fun o e => hk _ o (Ne.symm dl1) e, hl2.at fun o e => hk _ o (Ne.symm dl2) e, ?_⟩
  rcases hz with ⟨hz, a, b, hTO⟩ | ⟨T, f, oT, hz, hT, r1, r2, r3, r4⟩
  · exact .inl ⟨hk _ _ (Ne.symm dz) hz, a, b, hk _ _ (Ne.symm dTO) hTO⟩
  · exact .inr ⟨T, f, oT, hk _ _ (Ne.symm dz) hz, hk _ _ r4 hT, r1, r2, r3, r4⟩
/-- what the loop of list.extend has laid: i pairs, the list at S holds them -/
structure ZpLaid (N S : Nat) (fp : List Addr) (h : Heap) (xs ys : Array Value) (i : Nat) (acc : Array Value) : Prop where
  sz : acc.size = i
  at_ : ∀ j, j < i → ∃ (T : Addr) (x y : Value), acc[j]? = some (.ref T) ∧ xs[j]? = some x ∧ ys[j]? = some y ∧ N ≤ T ∧ (T ≠ S ∧ T ∉ fp) ∧ T < h.objs.size ∧ IsPair h T x y
  ne : ∀ (j j' : Nat) (T : Addr), acc[j]? = some (.ref T) → acc[j']? = some (.ref T) → j = j'
theorem ZpLaid.push {N S : Nat} {fp : List Addr} {h h' : Heap} {xs ys : Array Value} {i : Nat} {acc : Array Value} {T : Addr} {x y : Value} (L : ZpLaid N S fp h xs ys i acc) (hx : xs[i]? = some x) (hy : ys[i]? = some y) (n1 : N ≤ T) (n2 : T ≠ S ∧ T ∉ fp) (hT : h.objs.size ≤ T) (lt : T < h'.objs.size) (tp : IsPair h' T x y)
    (k : ∀ a o, a ≠ S → a ∉ fp → h.get? a = some o → h'.get? a = some o) : ZpLaid N S fp h' xs ys (i + 1) (acc.push (.ref T)) := by
  have old : ∀ (j : Nat) (U : Addr), acc[j]? = some (.ref U) → U ≠ T := fun j U q z => by
    have jl : j < i := by
      have := (Array.getElem?_eq_some_iff.mp q).1
      rw [L.sz] at this
      exact this
    obtain ⟨U', _, _, q', _, _, _, _, lt', _⟩ := L.at_ j jl
    rw [q] at q'
    cases q'
    rw [z] at lt'
    exact absurd (Nat.lt_of_lt_of_le lt' hT) (Nat.lt_irrefl _)
  have get : ∀ (j : Nat) (v : Value), (acc.push (.ref T))[j]? = some v → (j = i ∧ v = .ref T) ∨ (j < i ∧ acc[j]? = some v) := fun j v q => by
    rw [Array.getElem?_push] at q
    split at q
    · rename_i z
      rw [L.sz] at z
      cases q
      exact .inl ⟨z, rfl⟩
    · refine .inr ⟨?_, q⟩
      have := (Array.getElem?_eq_some_iff.mp q).1
      rw [L.sz] at this
      exact this
  refine ⟨by rw [Array.size_push, L.sz], fun j hj => ?_, fun j j' U q q' => ?_⟩
  · by_cases c : j = i
    · subst c
      exact ⟨T, x, y, by rw [Array.getElem?_push, if_pos L.sz.symm], hx, hy, n1, n2, lt, tp⟩
    · obtain ⟨U, x', y', e1, e2, e2', e3, e4, e5, e6⟩ := L.at_ j (by omega)
      refine ⟨U, x', y', ?_, e2, e2', e3, e4, Heap.lt_size (k U _ e4.1 e4.2 e6), k U _ e4.1 e4.2 e6⟩
      rw [Array.getElem?_push, if_neg (by rw [L.sz]; exact c)]
      exact e1
  · rcases get j _ q with ⟨rfl, z⟩ | ⟨l1, z⟩ <;> rcases get j' _ q' with ⟨rfl, z'⟩ | ⟨l2, z'⟩
    · rfl
    · exact absurd (Value.ref.inj z) (old j' U z')
    · exact absurd (Value.ref.inj z') (old j U z)
    · exact L.ne j j' U z z'
end Bk
namespace Bk
open PySem L2 PyProof.Rows
section
variable {K : PySem.W.Frag}
theorem DRs.dropLast {Hs : Hp} : ∀ {vs : List V} {ds : List D}, DRs K Hs vs ds → DRs K Hs vs.dropLast ds.dropLast
  | _, _, .nil => .nil
  | _, _, .cons d .nil => .nil
  | _, _, .cons d (.cons d1 d2) => .cons d (DRs.dropLast (.cons d1 d2))
end
end Bk
namespace Bk
open PySem L2
section
variable {K : PySem.W.Frag}
inductive ResFL (K : PySem.W.Frag) (H H' Hs' : Hp) : List V → List R → Prop
  | nil : ResFL K H H' Hs' [] []
  | cons {v : V} {r : R} {vs : List V} {rs : List R} : ResF K H H' Hs' v r → (∀ p, OwnAt v r p → ∀ x ∈ vs.zip rs, ¬ OwnAt x.1 x.2 p) → ResFL K H H' Hs' vs rs → ResFL K H H' Hs' (v :: vs) (r :: rs)
theorem ResL.len {Fz : Hp} {G : Gam} {σ : L2.St} {H Hs : Hp} {vs : List V} {rs : List R} (h : ResL K Fz G σ H Hs vs rs) : vs.length = rs.length := by
  induction h with
  | nil => rfl
  | cons _ _ _ ih => rw [List.length_cons, List.length_cons, ih]
theorem ResFL.len {H H' Hs' : Hp} {vs : List V} {rs : List R} (h : ResFL K H H' Hs' vs rs) : vs.length = rs.length := by
  induction h with
  | nil => rfl
  | cons _ _ _ ih => rw [List.length_cons, List.length_cons, ih]
theorem Res.push {Fz : Hp} {G : Gam} {σ : L2.St} {H Hs H' : Hp} (s : Same H H') {v : V} {r : R} (h : Res K Fz G σ H Hs v r) : Res K Fz G σ H' Hs v r := by
  cases r with
  | im d => exact h
  | ow m =>
    obtain ⟨p, o, e, h1, h2⟩ := h
    exact ⟨p, o, e, s p o h1, h2⟩
theorem ResL.push {Fz : Hp} {G : Gam} {σ : L2.St} {H Hs H' : Hp} (s : Same H H') {vs : List V} {rs : List R} (h : ResL K Fz G σ H Hs vs rs) : ResL K Fz G σ H' Hs vs rs := by
  induction h with
  | nil => exact .nil
  | cons a b _ ih => exact .cons (a.push s) b ih
end
end Bk
namespace Bk
open PySem L2 PySem.Builtin PySem.Spec PyProof.Rows
/-- what the loop of list.extend has laid: i tuples, the list at S holds them -/
structure EnLaid (N S e it : Nat) (h : Heap) (its : Array Value) (i : Nat) (acc : Array Value) : Prop where
  sz : acc.size = i
  at_ : ∀ j, j < i → ∃ (T : Addr) (tk : Nat) (x : Value), acc[j]? = some (.ref T) ∧ its[j]? = some x ∧ N ≤ T ∧ (T ≠ S ∧ T ≠ e ∧ T ≠ it) ∧ T < h.objs.size ∧ h.get? T = some { cls := .type "tuple", data := .seq #[.int (j : Int) tk, x] }
  ne : ∀ (j j' : Nat) (T : Addr), acc[j]? = some (.ref T) → acc[j']? = some (.ref T) → j = j'
theorem EnLaid.push {N S e it : Nat} {h h' : Heap} {its : Array Value} {i tk : Nat} {acc : Array Value} {T : Addr} {x : Value} (L : EnLaid N S e it h its i acc) (hx : its[i]? = some x) (n1 : N ≤ T) (n2 : T ≠ S ∧ T ≠ e ∧ T ≠ it) (hT : h.objs.size ≤ T) (lt : T < h'.objs.size) (tp : h'.get? T = some { cls := .type "tuple", data := .seq #[.int (i : Int) tk, x] })
    (k : ∀ a o, a ≠ S → a ≠ e → a ≠ it → h.get? a = some o → h'.get? a = some o) : EnLaid N S e it h' its (i + 1) (acc.push (.ref T)) := by
  have old : ∀ (j : Nat) (U : Addr), acc[j]? = some (.ref U) → U ≠ T := fun j U q z => by
    have jl : j < i := by
      have := (Array.getElem?_eq_some_iff.mp q).1
      rw [L.sz] at this
      exact this
    obtain ⟨U', _, _, q', _, _, _, lt', _⟩ := L.at_ j jl
    rw [q] at q'
    cases q'
    rw [z] at lt'
    exact absurd (Nat.lt_of_lt_of_le lt' hT) (Nat.lt_irrefl _)
  have get : ∀ (j : Nat) (v : Value), (acc.push (.ref T))[j]? = some v → (j = i ∧ v = .ref T) ∨ (j < i ∧ acc[j]? = some v) := fun j v q => by
    rw [Array.getElem?_push] at q
    split at q
    · rename_i z
      rw [L.sz] at z
      cases q
      exact .inl ⟨z, rfl⟩
    · refine .inr ⟨?_, q⟩
      have := (Array.getElem?_eq_some_iff.mp q).1
      rw [L.sz] at this
      exact this
  refine ⟨by rw [Array.size_push, L.sz], fun j hj => ?_, fun j j' U q q' => ?_⟩
  · by_cases c : j = i
    · subst c
      exact ⟨T, tk, x, by rw [Array.getElem?_push, if_pos L.sz.symm], hx, n1, n2, lt, tp⟩
    · obtain ⟨U, tk', y, e1, e2, e3, e4, e5, e6⟩ := L.at_ j (by omega)
      refine ⟨U, tk', y, ?_, e2, e3, e4, Heap.lt_size (k U _ e4.1 e4.2.1 e4.2.2 e6), k U _ e4.1 e4.2.1 e4.2.2 e6⟩
      rw [Array.getElem?_push, if_neg (by rw [L.sz]; exact c)]
      exact e1
  · rcases get j _ q with ⟨rfl, z⟩ | ⟨l1, z⟩ <;> rcases get j' _ q' with ⟨rfl, z'⟩ | ⟨l2, z'⟩
    · rfl
    · exact absurd (Value.ref.inj z) (old j' U z')
    · exact absurd (Value.ref.inj z') (old j U z)
    · exact L.ne j j' U z z'
end Bk
namespace Bk
open PySem L2
section
variable {K : PySem.W.Frag}
inductive PkOk (K : PySem.W.Frag) : List (TE × TE) → List PySem.Str → M (List D) → Prop where
  | nil : PkOk K [] [] xnil
  | cons {k : PySem.Str} {tv : TE} {a : M R} {trs : List (TE × TE)} {ks : List PySem.Str} {r : M (List D)} : GOk K tv a → PkOk K trs ks r → PkOk K ((tC (.str k), tv) :: trs) (k :: ks) (xcons a r)
theorem PkOk.run {trs : List (TE × TE)} {ks : List PySem.Str} {f : M (List D)} (h : PkOk K trs ks f) : ∀ {Fz ba G σ H Hs ds G'}, Rel K Fz ba G σ H Hs → f G = some (ds, G') →
    ∀ Q : List (V × V) → Hp → Prop, (∀ vs H' Hs', Rel K Fz ba G' σ H' Hs' → Same Hs Hs' → DRs K Hs' vs ds → vs.length = ks.length → Q ((ks.map V.str).zip vs) H') → tPairs trs σ H Q := by
  induction h with
  | nil =>
    intro Fz ba G σ H Hs ds G' q e Q k
    cases e
    exact k [] H Hs q (Same.refl _) .nil rfl
  | cons ha _ ih =>
    intro Fz ba G σ H Hs ds G' q e Q k
    obtain ⟨x, G1, e1, e⟩ := bd_inv e
    obtain ⟨xs, G2, e2, e⟩ := bd_inv e
    cases e
    refine ha.im q e1 fun v1 H1 Hs1 q1 s1 d1 => ?_
    exact ih q1 e2 _ fun vs H2 Hs2 q2 s2 d2 l2 => k (v1 :: vs) H2 Hs2 q2 (s1.trans s2) (.cons (d1.mono s2) d2) (congrArg Nat.succ l2)
end
end Bk
namespace PySem
open PySem.Spec
end PySem
namespace L2
open PySem PySem.Spec PyProof.Rows
end L2
namespace L2
open PySem PySem.Spec PyProof.Rows
end L2
namespace L2
end L2
namespace Bk
open PySem L2
/-- the dict at a is locked, or no longer -/
structure Sw (a : Addr) (kvs : List (Key × V)) (H H' : Hp) : Prop where
  off : ∀ x, x ≠ a → H' x = H x
  h : Rd H a (.dK kvs)
  h' : Rd H' a (.dK kvs)
theorem Sw.rd {a : Addr} {kvs : List (Key × V)} {H H' : Hp} (s : Sw a kvs H H') {x : Addr} {u : HO} (hu : ∀ o w, u ≠ .frz o w) (r : Rd H x u) : Rd H' x u := by
  by_cases z : x = a
  · subst z
    have e : u = .dK kvs := by
      rcases r with r | ⟨o, r⟩
      · rcases s.h with q | ⟨o2, q⟩
        · rw [r] at q
          exact Option.some.inj q
        · rw [r] at q
          exact absurd (Option.some.inj q) (hu _ _)
      · rcases s.h with q | ⟨o2, q⟩
        · rw [r] at q
          cases q
        · rw [r] at q
          cases q
          rfl
    rw [e]
    exact s.h'
  · rcases r with r | ⟨o, r⟩
    · exact .inl (by rw [s.off x z]; exact r)
    · exact .inr ⟨o, by rw [s.off x z]; exact r⟩
theorem Sw.eq {a : Addr} {kvs : List (Key × V)} {H H' : Hp} (s : Sw a kvs H H') {x : Addr} {u : HO} (h : H x = some u) (h1 : u ≠ .dK kvs) (h2 : ∀ o, u ≠ .frz o (.dK kvs)) : H' x = some u := by
  have ne : x ≠ a := fun z => by
    subst z
    rcases s.h with q | ⟨o, q⟩ <;> rw [h] at q
    · exact h1 (Option.some.inj q)
    · exact h2 o (Option.some.inj q)
  rw [s.off x ne]
  exact h
section
variable {K : PySem.W.Frag} {a : Addr} {kvs : List (Key × V)} {H H' : Hp}
theorem Sw.tup (s : Sw a kvs H H') {x : Addr} {xs : List V} (h : SqT K H x xs) : SqT K H' x xs := by
  rcases h with h | h
  · exact .inl (s.rd (fun _ _ z => by cases z) h)
  · exact .inr h
theorem Sw.lst (s : Sw a kvs H H') {x : Addr} {xs : List V} (h : SqL K H x xs) : SqL K H' x xs := by
  rcases h with h | h
  · exact .inl (s.rd (fun _ _ z => by cases z) h)
  · exact .inr h
end
end Bk
namespace PySem
namespace UnlX
open PySem.W PySem.Calls PyProof.Rows PySem.HandSPX
def iA (p1 : Pos) : Arguments := { posonlyargs := [], args := [{ arg := "self", annotation := none, pos := p1 }], vararg := none, kwonlyargs := [], kw_defaults := [], kwarg := none, defaults := [] }
def iE (p0 p1 ap cp pos : Pos) (m : Str) (j : Nat) : Expr := .Call (.Attribute (.Call (.Name "super" p0) [] [] p1) "__init__" ap) [.Constant (.str m) j cp] [] pos
def iB (p0 p1 ap cp pos ep : Pos) (m : Str) (j : Nat) : List Stmt := [.Expr (iE p0 p1 ap cp pos m j) ep]
/-- the scope of such an __init__ -/
structure Sc (sc : Scope) : Prop where
  self : sc.names.lookup ("self" : Str) = some .local
  sup : sc.names.lookup ("super" : Str) = some .globalImplicit
  cl : sc.names.lookup ("__class__" : Str) = some .free
  cell : ∀ x ∈ sc.names, x.2 ≠ .cell
  k : sc.kind = .function
  g : sc.isGenerator = false
  c : sc.isCoroutine = false
/-- what the written part says of the class at C and of its __init__ at fI -/
structure Txt (K : Frag) (C fI : Addr) (fl : Str) : Prop where
  cls : ∃ nm q N bs bm sn sub ab col dd k0 k1 k2 k3 k5, K.lookup C = some (excClassObj nm q C N bs bm true sn sub ab col dd k0 k1 k2 k3 k5 "ValueError.__new__") ∧ refsVE bm = true
  iC : findIn K (.ref C) "__init__" = some (some (.ref fI))
  tC : typeIn K (.ref fI) = some (.type "function")
  kC : keepIn K (.ref C) = true
  exC : subIn K (.ref C) (.type "BaseException") = some true
  vaC : subIn K (.ref C) (.type "ValueError") = some true
  tyC : typeIn K (.ref C) = some (.type "type")
  sup : ks_superIn K C C "__init__" = some (some (.builtin "ValueError.__init__"))
  mr : mroIn K C (.ref C) = some true
  ta : nsIn K cStatics "thirdparty.any" = some none
  fn : ∃ (oc : Value) (od : Option Addr) (kV doc pm : Value) (an : Option Addr) (cda cc : Addr) (ct : Value) (osl : Array (Option Value)) (p1 q0 q1 q2 q3 q4 q5 : Pos) (m : Str) (j : Nat) (sc : Scope) (tf : Tok) (ccl cl : Value) (cdd cld : Option Addr) (ccs csl : Array (Option Value)) (vs : Array Value),
    K.lookup fI = some ⟨oc, od, .func (ksFn "__init__" "Unlike.__init__" (iA p1) (iB q0 q1 q2 q3 q4 q5 m j) sc .none kV doc pm an (.ref cda) ct cc), osl⟩ ∧ codeIn K (.ref cda) "Unlike.__init__" = true ∧ Sc sc ∧ (q2.endLine == q4.line) = true ∧
    K.lookup cda = some ⟨ccl, cdd, .fields vs, ccs⟩ ∧ vs[2]? = some (.str fl tf) ∧ K.lookup cc = some ⟨cl, cld, .cell (some (.ref C)), csl⟩
theorem meth_he {o : Expr} {name : Str} {apos pos : Pos} {e : Expr} {env : Env} (hline : (apos.endLine == pos.line) = true) (hb : backTo pos (starEach [e] env) = [(false, eval e env)]) :
    eval (.Call (.Attribute o name apos) [e] [] pos) env = (do
      let ov ← attributeBase o name env (eval o env)
      standAt apos.atName
      let (f, first) ← holding [ov] (getMethod ov name (do return (← importBound o env).getD true))
      callWith pos f first (backTo pos (starEach [e] env)) []) := by
  rw [arm_eval_Call]
  have hform : methodCallForm ([e].length + ([] : List Keyword).length) (backTo pos (starEach [e] env)) (backToKw pos (keywordEach [] env)) = true := by rw [hb]; rfl
  have hpos : methodCallPos true o env apos pos = pure pos := by unfold methodCallPos; simp [hline]
  unfold methodCall
  rw [hform]
  simp only [hpos, pure_bind]
  rfl
end UnlX
end PySem
namespace L2
open PySem PySem.Spec PyProof.Rows
section
variable {X : Cx} {C fI : Addr} {fl : PySem.Str}
/-- what the run's text says, so that super() is the built-in one -/
structure PFile (P : Program) (fl : PySem.Str) : Prop where
  f : ((P.main.file : PySem.Str) == fl) = true
  t : (P.main.scope.names.lookup ("super" : PySem.Str)).isSome = false
end
end L2
namespace PySem
namespace UnvX
open PySem.W PySem.Calls PyProof.Rows PySem.HandSPX PySem.UnlX
def iA (f : Str) (p1 p2 : Pos) : Arguments := { posonlyargs := [], args := [{ arg := "self", annotation := none, pos := p1 }, { arg := f, annotation := none, pos := p2 }], vararg := none, kwonlyargs := [], kw_defaults := [], kwarg := none, defaults := [] }
def iB (f : Str) (q0 q1 q2 q3 q4 q5 a1 a2 a3 a4 : Pos) (m : Str) (j : Nat) : List Stmt := [.Expr (iE q0 q1 q2 q3 q4 m j) q5, .Assign [.Attribute (.Name "self" a1) f a2] (.Name f a3) a4]
/-- what the written part says of the class at C and of its __init__ at fI -/
structure Txt (K : Frag) (C fI : Addr) (fl qn f : Str) : Prop where
  cls : ∃ nm q N bs bm sn sub ab col dd k0 k1 k2 k3 k5, K.lookup C = some (excClassObj nm q C N bs bm true sn sub ab col dd k0 k1 k2 k3 k5 "ValueError.__new__") ∧ refsVE bm = true
  iC : findIn K (.ref C) "__init__" = some (some (.ref fI))
  tC : typeIn K (.ref fI) = some (.type "function")
  kC : keepIn K (.ref C) = true
  exC : subIn K (.ref C) (.type "BaseException") = some true
  vaC : subIn K (.ref C) (.type "ValueError") = some true
  tyC : typeIn K (.ref C) = some (.type "type")
  sup : ks_superIn K C C "__init__" = some (some (.builtin "ValueError.__init__"))
  mr : mroIn K C (.ref C) = some true
  ta : nsIn K cStatics "thirdparty.any" = some none
  sa : findIn K (.ref C) "__setattr__" = some (some (.builtin "object.__setattr__"))
  na : findIn K (.ref C) f = some none
  fn : ∃ (oc : Value) (od : Option Addr) (kV doc pm : Value) (an : Option Addr) (cda cc : Addr) (ct : Value) (osl : Array (Option Value)) (p1 p2 q0 q1 q2 q3 q4 q5 a1 a2 a3 a4 : Pos) (m : Str) (j : Nat) (sc : Scope) (tf : Tok) (ccl cl : Value) (cdd cld : Option Addr) (ccs csl : Array (Option Value)) (vs : Array Value),
    K.lookup fI = some ⟨oc, od, .func (ksFn "__init__" qn (iA f p1 p2) (iB f q0 q1 q2 q3 q4 q5 a1 a2 a3 a4 m j) sc .none kV doc pm an (.ref cda) ct cc), osl⟩ ∧ codeIn K (.ref cda) qn = true ∧ Sc sc ∧ sc.names.lookup f = some .local ∧ (q2.endLine == q4.line) = true ∧
    K.lookup cda = some ⟨ccl, cdd, .fields vs, ccs⟩ ∧ vs[2]? = some (.str fl tf) ∧ K.lookup cc = some ⟨cl, cld, .cell (some (.ref C)), csl⟩
theorem Txt.oex {K : Frag} {C fI : Addr} {fl qn f : Str} (T : Txt K C fI fl qn f) : L2.OexC K C := ⟨T.cls, T.sa, T.exC, T.tyC, T.kC⟩
end UnvX
end PySem
namespace L2
open PySem PySem.Spec PyProof.Rows PySem.W PySem.Calls PySem.HandSPX PySem.UnlX
/-- such an __init__: its promise -/
def spIni (C : Addr) (f : PySem.Str) : Sp := fun vs H Q _ => ∃ (a : Addr) (y : V), vs = [.ref a, y] ∧ H a = some (exo a C none) ∧ ∀ dx, H dx = none → dx ≠ a → Q .non (upd (upd H dx (exd dx [(f, y)])) a (exo a C (some dx)))
theorem fn_init {P : Program} {w : World} {K : PySem.W.Frag} {mg : PySem.Str → Option Value} {base : Heap} {CX : CXT} {C fI : Addr} {fl qn f : PySem.Str} (T : PySem.UnvX.Txt K C fI fl qn f) (hfs : (f == ("self" : PySem.Str)) = false) (hfd : (f == ("__debug__" : PySem.Str)) = false) (hP : PFile P fl) (hsu : mg "super" = none)
    (hbn : ∀ (qn : PySem.Str) (p1 p2 : Pos) (body : List Stmt) (sc : Scope) (kV doc pm : Value) (an : Option Addr) (cd ct : Value) (cc : Addr) (u v : Value), bindArgs (PySem.W.ksFn "__init__" qn (PySem.UnvX.iA f p1 p2) body sc .none kV doc pm an cd ct cc) ⟨[u, v], []⟩ = pure [(("self" : PySem.Str), u), (f, v)]) :
    ∃ fd, FnOk P w K mg base CX 1 fI fd ["self", f] (spIni C f) ∧ Binds K fd ["self", f] [] := by
  have T0 := T
  obtain ⟨oc, od, kV, doc, pm, an, cda, cc, ct, osl, p1, p2, q0, q1, q2, q3, q4, q5, a1, a2, a3, a4, m, j, sc, tf, ccl, cl, cdd, cld, ccs, csl, vs, ho, hcd, S, Sf, hline, hcode, hvs, hcell⟩ := T.fn
  obtain ⟨nm, q, N, bs, bm, sn, sub, ab, col, dd, k0, k1, k2, k3, k5, hC, hbm⟩ := T.cls
  rcases sc with ⟨kd, nms, ig, ic, mo⟩
  have Sk := S.k
  dsimp only at Sk
  subst Sk
  refine ⟨ksFn "__init__" qn (PySem.UnvX.iA f p1 p2) (PySem.UnvX.iB f q0 q1 q2 q3 q4 q5 a1 a2 a3 a4 m j) ⟨.function, nms, ig, ic, mo⟩ .none kV doc pm an (.ref cda) ct cc, ⟨fun vs H Q E hsp => ?_, fun A outer s H args us vs Q E hr e0 hb r hsp => ?_⟩, Binds.all fun us hl => match us, hl with | [_, _], _ => hbn _ _ _ _ _ _ _ _ _ _ _ _ _ _⟩
  · obtain ⟨a, y, e, _⟩ := hsp
    rw [e]
    rfl
  obtain ⟨x, y, evs, ea, qq⟩ := hsp
  subst evs
  obtain ⟨u0, u, eu, ru0, ry⟩ : ∃ u0 u, us = [u0, u] ∧ RelV (.ref x) u0 ∧ RelV y u := by
    cases r with
    | cons p p' =>
      cases p' with
      | cons p2 p3 =>
        cases p3
        exact ⟨_, _, rfl, p, p2⟩
  subst eu
  obtain rfl : u0 = Value.ref x := ru0
  have X : K.In s.heap := e0.mod.kin.keeps fun b o e => (e0.bs b o e).1
  have hlim : s.heap.NoLimit := e0.mod.nolimit.keeps fun b o e => (e0.bs b o e).1
  have hG : s.heap.Ns mainGlobals mg := e0.mod.glob.keeps fun b o e => (e0.bs b o e).1
  obtain ⟨mb, hb1, hb2⟩ := e0.mod.blt
  have hB : s.heap.Ns builtinsNs mb := hb1.keeps fun b o e => (e0.bs b o e).1
  have hsb : mb "super" = some (.type "super") := (hb2 _ (by decide)).trans (by decide +kernel)
  obtain ⟨t0, hx⟩ := exo_at e0.hok ea
  have hok := e0.hok
  have hbare := e0.bare
  have hroom : A.depth < recursionLimit := hr.depth
  have hcl : PySem.W.clsIn K C = some { name := nm, bases := bs, mro := .ref C :: bm, ns := N, qualname := q, hasDict := true, slotNames := sn, subclasses := sub, abstract := ab, collection := col, hasDel := false } := by unfold PySem.W.clsIn; rw [hC] <;> rfl
  refine ks_codeAny_call_defAt (fd := ksFn "__init__" qn (PySem.UnvX.iA f p1 p2) (PySem.UnvX.iB f q0 q1 q2 q3 q4 q5 a1 a2 a3 a4 m j) ⟨.function, nms, ig, ic, mo⟩ .none kV doc pm an (.ref cda) ct cc) (binds := [("self", .ref x), (f, u)]) hroom (X _ _ ho) rfl hlim (codeRec_of X hcd) rfl hb S.cell
    (fun y hy => by
      rcases List.mem_cons.mp hy with rfl | hy
      · exact S.self
      · rw [List.mem_singleton.mp hy]
        exact Sf) (fun h₁ hns hk₁ => ?_) S.c S.g S.k
  have X₁ : K.In h₁ := X.keeps hk₁
  have hx₁ := hk₁ _ _ hx
  have n1 : (s.heap.objs.size : Nat) ≠ x := Nat.ne_of_gt (Heap.lt_size hx)
  obtain ⟨hp, g, dr, tk, os⟩ := s
  dsimp only at *
  have hkind : ∀ y v, nms.lookup y = some v → (ksEnv qn ⟨.function, nms, ig, ic, mo⟩ hp.objs.size fI (.ref cda) cc).kindOf y = some v := fun y v h => h
  have lself : ([("self", .ref x), (f, u)] : List (PySem.Str × Value)).reverse.lookup ("self" : PySem.Str) = some (Value.ref x) := by
    show (List.lookup ("self" : PySem.Str) [(f, u), ("self", .ref x)]) = _
    have h1 : (("self" : PySem.Str) == f) = false := by
      rw [beq_eq_false_iff_ne] at hfs ⊢
      exact fun e => hfs e.symm
    simp only [List.lookup, h1]
    rfl
  have lf : ([("self", .ref x), (f, u)] : List (PySem.Str × Value)).reverse.lookup f = some u := by
    show (List.lookup f [(f, u), ("self", .ref x)]) = _
    simp [List.lookup]
  refine ks_wpAt_execs_cons (ks_wpAt_Expr_any (ks_wpAt_MethodCall ?_ (meth_he hline rfl)) rfl rfl)
  refine ks_wpAt_super_base (env := ksEnv qn ⟨.function, nms, ig, ic, mo⟩ hp.objs.size fI (.ref cda) cc) (hkind _ _ S.sup) (hkind _ _ S.cl) (by decide) rfl (X₁ _ _ ho) rfl rfl rfl (X₁ _ _ hcode) rfl hvs hP.f hP.t ?_
  refine ks_loadName_global S.k (hkind _ _ S.sup) (loadGlobal_builtin (hG.keeps hk₁) hsu (hB.keeps hk₁) hsb ⟨rfl, ?_⟩)
  refine wpAny_loadName_free S.k (hkind _ _ S.cl) rfl ⟨_, X₁ _ _ hcell, rfl⟩ ?_
  refine wpAny_loadName_local S.k (hkind _ _ S.self) hns lself ?_
  refine ks_wpAny_isType_cls (X₁ _ _ hC) rfl ⟨rfl, ?_⟩
  refine ks_wpAny_call_super (X₁ _ _ hC) rfl hx₁ rfl (fun c z => by cases z) (looks_mroIn X₁ T.mr) fun h₂ hso k₂ => ?_
  have X₂ : K.In h₂ := X₁.keeps k₂
  have I : InstAt h₂ x (excO C t0) C none := ⟨k₂ _ _ hx₁, rfl, rfl, trivial⟩
  have hI : Looks (model P w) h₂ (isInstance (.ref x) (.type "ValueError")) true := I.type.andThen (looks_subIn X₂ T.vaC)
  have hm := T.sup
  unfold ks_superIn at hm
  rw [hcl] at hm
  refine kxs_getMethod kxs_ValueError hso (looks_opaque X₂ T.ta) (l₀ := (.ref C :: bm : List Value)) (fun A Q E s k q => wpAny_bind ((looks_clsIn X₂ hcl) A _ E s k (wpAny_pure q))) rfl X₂ hm hI (ks_ne X₂ I hcl) (by decide) ?_
  refine kxs_callWith (i := "ValueError.__init__") (x := x) rfl (evalArgs_plain (spliced_more (wpAny_Constant_str (spliced_none ?_)) rfl))
  have hu : (h₂.push (kxs_mw "ValueError.__init__" x)).get? h₂.objs.size = some (kxs_mw "ValueError.__init__" x) := Heap.get?_push_at rfl rfl
  have k₃ : ∀ b o, h₂.get? b = some o → (h₂.push (kxs_mw "ValueError.__init__" x)).get? b = some o := fun b o e => Heap.get?_push_of_some _ e
  refine ⟨hu, ?_⟩
  have FB := PySem.F.excBase_ValueError
  refine wpAny_call (codeAny_of_tree ?_)
  show wpAny _ _ (callAny (.ref h₂.objs.size) ⟨[.str m _], []⟩) _ _ _
  simp only [callAny]
  refine wpAny_bind (wpAny_load hu ?_)
  simp only [kxs_mw, show (Value.type "method-wrapper" == Value.type "method" || Value.type "method-wrapper" == Value.type "builtin_function_or_method" || Value.type "method-wrapper" == Value.type "method-wrapper") = true by decide, if_true]
  refine KFB.if_so (by decide) ?_
  refine wpAny_bind (check_bound_init FB.toExcCallFacts (k₃ _ _ (X₂ _ _ hC)) (k₃ _ _ (k₂ _ _ hx₁)) rfl ?_)
  refine wpAny_bind (wpAny_pure (wpAny_pure ?_))
  refine ⟨plainId_quiet FB.init.plain _, codeAny_builtin FB.initEntry ?_⟩
  refine exc_init_tree (cls := .ref C) (t0 := t0) (dv := none) (c2 := .none) (c3 := .none) (b4 := .bool false) (k₃ _ _ (k₂ _ _ hx₁)) (by show 1 ≤ sizeLine; rw [sizeLine_eq]; decide) fun h₄ k₄ e₄ _ => ?_
  have K4 : ∀ b o, b ≠ x → hp.get? b = some o → h₄.get? b = some o := fun b o hb ho => k₄ b o hb (k₃ _ _ (k₂ _ _ (hk₁ b o ho)))
  have ns4 := hns.at fun o e => k₄ _ o n1 (k₃ _ _ (k₂ _ _ e))
  have X4 : K.In h₄ := fun b o e => K4 b o (fun z => by
    have := (e0.bs b o (e0.mod.kin b o e)).2
    rw [z, ea] at this
    cases this) (X b o e)
  refine ks_wpAt_execs_cons (ks_wpAt_Assign_Attr (wpAt_of_wpAny (wpAny_Name (wpAny_loadName_local S.k (hkind _ _ Sf) ns4 lf (wpAny_Name (wpAny_loadName_local S.k (hkind _ _ S.self) ns4 lself ?_))) hfd)))
  refine PySem.W.set_plain X4 (ox := { cls := .ref C, dict := none, data := .fields _ }) (od := none) ⟨e₄, rfl, rfl, trivial⟩ T.sa ?_
  refine PySem.HandSPX.exc_osa X4 e₄ hcl (show PySem.HandSPX.refsVE (.ref C :: bm) = true from hbm) rfl T.na (fun h' tk' dx k dn dne hx' hn => ?_)
  refine wpAt_of_wpAny (wpAny_execs_nil ?_)
  have hz : hp.objs.size ≤ h₄.objs.size := by
    obtain ⟨o, _, _, e, _⟩ := ns4
    exact Nat.le_of_lt (Heap.lt_size e)
  have hnd : H dx = none := hok.fresh (Nat.le_trans hz dn)
  have KK : ∀ b o, b ≠ x → hp.get? b = some o → h'.get? b = some o := fun b o hb ho => k b o hb (K4 b o hb ho)
  have nd : ∀ {b : Addr} {o : Obj}, hp.get? b = some o → b ≠ dx := fun {b o} q => Nat.ne_of_lt (Nat.lt_of_lt_of_le (Heap.lt_size q) (Nat.le_trans hz dn))
  have na : ∀ {b : Addr}, H b = none → b ≠ x := fun {b} n z => by
    rw [z, ea] at n
    cases n
  refine ⟨.non, _, rfl, hbare, ?_, ?_, rfl, qq dx hnd dne⟩
  · exact {
      keep := fun b o q n _ _ => KK b o (na n) q
      slot := fun b o q n _ _ => ⟨o.slots, KK b o (na n) q⟩
      free := fun b o q n _ => by rw [upd_ne (na n), upd_ne (nd q)]; exact n
      there := fun b o q _ => by
        by_cases hb : b = x
        · exact ⟨_, by rw [hb]; exact hx'⟩
        · exact ⟨o, KK b o hb q⟩
      tups := fun b xs q => by rw [upd_ne (at_ne ea q exo_tup), upd_ne (ne_of_none q hnd)]; exact q
      frzs := fun b o v q => by rw [upd_ne (at_ne ea q exo_frz), upd_ne (ne_of_none q hnd)]; exact q
      tbls := fun b ps q => ⟨#[], by rw [upd_ne (at_ne ea q exo_tbl), upd_ne (ne_of_none q hnd), q]; simp⟩ }
  · intro b o q
    by_cases hb : b = x
    · subst hb
      rw [upd_same] at q
      cases q
      exact exo_ok hx'
    · rw [upd_ne hb] at q
      by_cases hd : b = dx
      · subst hd
        rw [upd_same] at q
        cases q
        exact exd_ok hn (relO_put (fs := []) ry fun g => True.intro)
      · rw [upd_ne hd] at q
        exact (hok b o q).stay (fun c v hc z => KK c v (by
            rcases hc with hc | hc
            · rw [hc]
              exact hb
            · exact at_ne ea hc exo_own) z)
          (fun c hc => by rw [upd_ne (at_ne ea hc exo_own), upd_ne (ne_of_none hc hnd)]; exact hc) (fun c xs hc => by rw [upd_ne (at_ne ea hc exo_tup), upd_ne (ne_of_none hc hnd)]; exact hc)
end L2
namespace Bk
open PySem L2 PyProof.Rows
section
variable {P : Program} {w : World} {K : PySem.W.Frag} {mg : PySem.Str → Option Value} {base : Heap} {C C9 : Addr}
theorem fnOk_cx {CX : CXT} {k : Nat} {f : Addr} {fd : FuncData} {ps : List PySem.Str} {sp : Sp} (F : FnOk P w K mg base CX0 k f fd ps sp) : FnOk P w K mg base CX k f fd ps sp :=
  ⟨F.len, fun A outer s H args us vs Q E hr e0 hb r h => codeAny_mono (F.run A outer s H args us vs Q E hr e0 hb r h) fun r s' q => by
    cases r with
    | error e => exact False.elim q
    | ok fl => cases fl <;> exact q⟩
end
end Bk
namespace Bk
open PySem L2 PyProof.Rows
/-- an exception: its class by number, what its attribute holds -/
structure Ex where
  c : Nat
  v : Option D
def xName : Nat → PySem.Str
  | 0 => "InvalidRule" | 1 => "InvalidText" | 2 => "InvalidPoints" | 3 => "Unlike" | 4 => "InvalidCommand" | _ => "Refused"
def xAttr : Nat → PySem.Str
  | 0 => "word" | _ => "at"
def XAt (K : PySem.W.Frag) (c : Nat) (C : Addr) : Prop := PySem.W.nsIn K mainGlobals (xName c) = some (some (.ref C))
theorem XAt.eq {K : PySem.W.Frag} {c : Nat} {C C' : Addr} (h : XAt K c C) (h' : XAt K c C') : C = C' := by
  unfold XAt at h h'
  rw [h] at h'
  cases h'
  rfl
/-- cls and d are those of the exception x -/
def XO (K : PySem.W.Frag) (H Hs : Hp) (x : Ex) (cls : Value) (d : Option Addr) : Prop := ∃ C, cls = .ref C ∧ XAt K x.c C ∧ match x.v with
  | none => d = none
  | some y => ∃ (a : Addr) (v : V), d = some a ∧ H a = some (.xd [(xAttr x.c, v)]) ∧ Hs a = none ∧ DR K Hs v y
abbrev MX := Gam → Option (Ex × Gam)
/-- the wish of an exception x that leaves the slots G' -/
def WP (K : PySem.W.Frag) (Fz : Hp) (ba : Nat → Addr) (G' : Gam) (H Hs : Hp) (x : Ex) (W : WX) : Prop :=
  ∀ cls d σ' H' Hs', Rel K Fz ba G' σ' H' Hs' → Same Hs Hs' → (∀ a, d = some a → Fz a = none) → XO K H' Hs' x cls d → W cls d σ' H'
theorem WP.mono {K : PySem.W.Frag} {Fz : Hp} {ba : Nat → Addr} {G' : Gam} {H H1 Hs Hs1 : Hp} {x : Ex} {W : WX} (h : WP K Fz ba G' H Hs x W) (s : Same Hs Hs1) : WP K Fz ba G' H1 Hs1 x W :=
  fun cls d σ' H' Hs' q s1 f o => h cls d σ' H' Hs' q (s.trans s1) f o
def EE (K : PySem.W.Frag) (t : WX → TE) (f : MX) : Prop := ∀ (W : WX) Fz ba G σ H Hs x G', Rel K Fz ba G σ H Hs → f G = some (x, G') → WP K Fz ba G' H Hs x W → ∀ Q : VK, t W σ H Q
def EA (K : PySem.W.Frag) (t : WX → TA) (f : MX) : Prop := ∀ (W : WX) Fz ba G σ H Hs x G', Rel K Fz ba G σ H Hs → f G = some (x, G') → WP K Fz ba G' H Hs x W → ∀ Q : List V → Hp → Prop, t W σ H Q
def ES (K : PySem.W.Frag) (t : WX → TS) (f : MX) : Prop := ∀ (W : WX) Fz ba G σ H Hs x G', Rel K Fz ba G σ H Hs → f G = some (x, G') → WP K Fz ba G' H Hs x W → ∀ D : Ends, t W D σ H
section
variable {K : PySem.W.Frag} {mg : PySem.Str → Option Value}
def enone : MX := fun _ => none
theorem ea_none {t : WX → TA} : EA K t enone := fun W Fz ba G σ H Hs x G' q e => by cases e
theorem es_none {t : WX → TS} : ES K t enone := fun W Fz ba G σ H Hs x G' q e => by cases e
/-- a def that raises what e says -/
def spE (K : PySem.W.Frag) (e : List D → Option Ex) : Sp := fun vs H _ E => ∃ Hs ds x, Same Hs H ∧ DRs K Hs vs ds ∧ e ds = some x ∧ ∀ cls d H' Hs', Ext H Hs H' Hs' → (∀ a, d = some a → H a = none) → XO K H' Hs' x cls d → E cls d H'
def spZ (K : PySem.W.Frag) (r : List D → Option R) (e : List D → Option Ex) : Sp := fun vs H Q E => spF K r vs H Q E ∨ spE K e vs H Q E
def ecall (e : List D → Option Ex) (ea : MX) (a : M (List D)) : MX := fun G => match ea G with
  | some r => some r
  | none => bd (a G) fun xs G1 => match e xs with
    | some x => some (x, G1)
    | none => none
/-- where the object is one of those that the caller tracks, it is not new -/
theorem fz_of {Fz : Hp} {ba : Nat → Addr} {G : Gam} {σ : L2.St} {H Hs : Hp} (q : Rel K Fz ba G σ H Hs) {d : Option Addr} (h : ∀ a, d = some a → H a = none) : ∀ a, d = some a → Fz a = none := fun a e => by
  cases z : Fz a with
  | none => rfl
  | some o =>
    have := (q.fz a o z).1
    rw [h a e] at this
    cases this
theorem ee_call {r : List D → Option R} {e : List D → Option Ex} {ta : WX → TA} {ea : MX} {a : M (List D)} (h1 : EA K ta ea) (ha : ∀ W, AOk K (ta W) a) : EE K (fun W => tCallS (spZ K r e) (WE W) (ta W)) (ecall e ea a) := fun W Fz ba G σ H Hs x G' q e0 w Q => by
  unfold ecall at e0
  split at e0
  case h_1 y hy =>
    cases e0
    exact h1 W Fz ba G σ H Hs x G' q hy w _
  case h_2 hy =>
    obtain ⟨xs, G1, e1, e0⟩ := bd_inv e0
    split at e0
    case h_2 => cases e0
    rename_i y hx
    cases e0
    refine ha W Fz ba G σ H Hs xs _ q e1 _ fun vs H1 Hs1 q1 s1 d1 => ?_
    exact .inr ⟨Hs1, xs, x, q1.sub, d1, hx, fun cls d H' Hs' ex fr o => w cls d σ H' Hs' (q1.ext ex) (s1.trans ex.b) (fz_of q1 fr) o⟩
theorem gk_callZ {r : List D → Option R} {e : List D → Option Ex} {E : L2.St → XK} {ta : TA} {a : M (List D)} (ha : AOk K ta a) : GOk K (tCallS (spZ K r e) E ta) (xcall r a) := fun Fz ba G σ H Hs res G' q e Q k => by
  obtain ⟨xs, G1, e1, e⟩ := bd_inv e
  cases h : r xs with
  | none => rw [h] at e; cases e
  | some r' =>
    rw [h] at e
    cases e
    refine ha Fz ba G σ H Hs xs _ q e1 _ fun vs H1 Hs1 q1 s1 d1 => ?_
    exact .inl ⟨Hs1, xs, _, q1.sub, d1, h, fun v H3 Hs3 ex rf => k v H3 Hs3 (q1.ext ex) (s1.trans ex.b) (rf.res q1)⟩
theorem es_asg {te : WX → TE} {g : TG} {ea : MX} (h : EE K te ea) : ES K (fun W => tAsg (te W) g) ea := fun W Fz ba G σ H Hs x G' q e w D => h W Fz ba G σ H Hs x G' q e w _
theorem es_drop {te : WX → TE} {ea : MX} (h : EE K te ea) : ES K (fun W => tDrop (te W)) ea := fun W Fz ba G σ H Hs x G' q e w D => h W Fz ba G σ H Hs x G' q e w _
def eseq (ea : MX) (a : MS) (eb : MX) : MX := fun G => match ea G with
  | some r => some r
  | none => match a G with
    | some (.nx, G1) => eb G1
    | _ => none
theorem es_seq {t u : WX → TS} {ea eb : MX} {a : MS} (h1 : ES K t ea) (ha : ∀ W, SOk K (t W) a) (h2 : ES K u eb) : ES K (fun W => tSeq (t W) (u W)) (eseq ea a eb) := fun W Fz ba G σ H Hs x G' q e w D => by
  unfold eseq at e
  split at e
  case h_1 r hr =>
    cases e
    exact h1 W Fz ba G σ H Hs x G' q hr w _
  case h_2 hr =>
    split at e
    case h_2 => cases e
    rename_i G1 e1
    exact ha W Fz ba G σ H Hs .nx G1 q e1 _ fun σ1 H1 Hs1 q1 s1 => h2 W Fz ba G1 σ1 H1 Hs1 x G' q1 e (w.mono s1) _
def eifs (t : M Bool) (ea eb : MX) : MX := fun G => bd (t G) fun k G1 => if k then ea G1 else eb G1
theorem es_if {t : WX → TT} {u v : WX → TS} {c : M Bool} {ea eb : MX} (hc : ∀ W, TOk K (t W) c) (h1 : ES K u ea) (h2 : ES K v eb) : ES K (fun W => tIfS (t W) (u W) (v W)) (eifs c ea eb) := fun W Fz ba G σ H Hs x G' q e w D => by
  obtain ⟨k, G1, e1, e⟩ := bd_inv e
  refine hc W Fz ba G σ H Hs k G1 q e1 _ fun H1 Hs1 q1 s1 => ?_
  cases k with
  | true => exact (if_pos rfl).mpr (h1 W Fz ba G1 σ H1 Hs1 x G' q1 e (w.mono s1) _)
  | false => exact (if_neg (by decide)).mpr (h2 W Fz ba G1 σ H1 Hs1 x G' q1 e (w.mono s1) _)
def eforL (tg : D → Gam → Option Gam) (b : MS) (eb : MX) : List D → MX
  | [] => fun _ => none
  | d :: ds => fun G => match tg d G with
    | none => none
    | some G3 => match eb G3 with
      | some r => some r
      | none => match b G3 with
        | some (.nx, G4) => eforL tg b eb ds G4
        | some (.ct, G4) => eforL tg b eb ds G4
        | _ => none
def efor (it : M (List D)) (tg : D → Gam → Option Gam) (b : MS) (eb : MX) : MX := fun G => bd (it G) fun ds G1 => eforL tg b eb ds G1
theorem es_for {w : WX → TI} {g : TG} {u : WX → TS} {it : M (List D)} {tg : D → Gam → Option Gam} {js : List Nat} {b : MS} {eb : MX} (hi : ∀ W, IOk K (w W) it) (hg : GtOk K g tg js) (hb : ∀ W, SOk K (u W) b) (h1 : ES K u eb) : ES K (fun W => tFor (w W) g (u W)) (efor it tg b eb) := fun W Fz ba G σ H Hs x0 G' q e p Dn => by
  obtain ⟨ds, G1, e1, e⟩ := bd_inv e
  refine hi W Fz ba G σ H Hs ds G1 q e1 _ fun J H1 Hs1 q1 s1 Y => ?_
  refine ⟨fun i m σ2 H2 => m = ds.length - i ∧ i ≤ ds.length ∧ ∃ G2 Hs2, Rel K Fz ba G2 σ2 H2 Hs2 ∧ Same Hs1 Hs2 ∧ eforL tg b eb (ds.drop i) G2 = some (x0, G'), ⟨ds.length, rfl, Nat.zero_le _, G1, Hs1, q1, Same.refl _, e⟩, ?_⟩
  rintro i m σ2 H2 ⟨rfl, hi, G2, Hs2, q2, s2, e2⟩
  by_cases hlt : i < ds.length
  · refine .inr ⟨Y.go i H2 (s2.trans q2.sub) hlt, fun σ' H' => i + 1 ≤ ds.length ∧ ∃ G3 Hs3, Rel K Fz ba G3 σ' H' Hs3 ∧ Same Hs1 Hs3 ∧ eforL tg b eb (ds.drop (i + 1)) G3 = some (x0, G'), fun σ' H' ⟨z, z2⟩ => ⟨ds.length - (i + 1), by omega, rfl, z, z2⟩, fun x H' y => ?_⟩
    obtain ⟨d, Hs3, d1, ex, dr⟩ := Y.yld i x H2 H' Hs2 hlt s2 q2.sub y
    have q3 := q2.ext ex
    have ed : ds.drop i = d :: ds.drop (i + 1) := by
      rw [List.drop_eq_getElem_cons hlt]
      rw [List.getElem?_eq_getElem hlt] at d1
      cases d1
      rfl
    rw [ed] at e2
    unfold eforL at e2
    cases hG : tg d G2 with
    | none => rw [hG] at e2; cases e2
    | some G3 =>
      rw [hG] at e2
      refine hg.run Fz ba G2 σ2 H' Hs3 x d G3 q3 dr hG _ fun σ3 q4 _ _ => ?_
      simp only at e2
      split at e2
      case h_1 r hr =>
        cases e2
        exact h1 W Fz ba G3 σ3 H' Hs3 x0 G' q4 hr (p.mono ((s1.trans s2).trans ex.b)) _
      case h_2 hr =>
        split at e2
        case h_1 G4 e3 =>
          exact hb W Fz ba G3 σ3 H' Hs3 .nx G4 q4 e3 _ fun σ' H4 Hs4 a1 a2 => ⟨hlt, G4, Hs4, a1, (s2.trans ex.b).trans a2, e2⟩
        case h_2 G4 e3 =>
          exact hb W Fz ba G3 σ3 H' Hs3 .ct G4 q4 e3 _ fun σ' H4 Hs4 a1 a2 => ⟨hlt, G4, Hs4, a1, (s2.trans ex.b).trans a2, e2⟩
        case h_3 => cases e2
  · have z : i = ds.length := by omega
    subst z
    rw [List.drop_length] at e2
    cases e2
def eraise (c : Nat) (a : M R) : MX := fun G => bd (a G) fun r G1 => some (⟨c, some r.d⟩, G1)
abbrev tRaise (C : Addr) (f : PySem.Str) (ta : TE) : WX → TS := fun W _ σ H => tMkO C (spIni C f) [] (tCons ta tNil) σ H fun cls d H' => W cls d σ H'
theorem es_raise {c : Nat} {C : Addr} {ta : WX → TE} {a : M R} (hC : XAt K c C) (ha : ∀ W, GOk K (ta W) a) : ES K (fun W => tRaise C (xAttr c) (ta W) W) (eraise c a) := fun W Fz ba G σ H Hs x G' q e w D => by
  obtain ⟨r, G1, e1, e⟩ := bd_inv e
  cases e
  refine (ha W).im q e1 fun v H1 Hs1 q1 s1 d1 => ?_
  refine ⟨show 1 ≤ 1000 by decide, fun z hz => ?_⟩
  refine ⟨z, v, rfl, upd_same, fun dx hdx hne => ?_⟩
  have hdx1 : H1 dx = none := by rw [upd_ne hne] at hdx; exact hdx
  refine ⟨rfl, dx, [(xAttr c, v)], upd_same, by rw [upd_ne hne, upd_same], hdx1, ?_⟩
  have at9 : ∀ b, b ≠ z → b ≠ dx → upd (del (upd (upd (upd H1 z (exo z C none)) dx (exd dx [(xAttr c, v)])) z (exo z C (some dx))) z) dx (.xd [(xAttr c, v)]) b = H1 b := fun b h1 h2 => by
    rw [upd_ne h2, del_ne h1, upd_ne h1, upd_ne h2, upd_ne h1]
  have sm : Same H1 (upd (del (upd (upd (upd H1 z (exo z C none)) dx (exd dx [(xAttr c, v)])) z (exo z C (some dx))) z) dx (.xd [(xAttr c, v)])) := fun b o hb => by
    rw [at9 b (ne_of_none hb hz) (ne_of_none hb hdx1)]
    exact hb
  have ex : Ext H1 Hs1 (upd (del (upd (upd (upd H1 z (exo z C none)) dx (exd dx [(xAttr c, v)])) z (exo z C (some dx))) z) dx (.xd [(xAttr c, v)])) Hs1 := ⟨sm, Same.refl _, q1.sub.trans sm, fun _ _ _ n => n⟩
  exact w _ _ σ _ Hs1 (q1.ext ex) s1 (fz_of q1 fun b e => by cases e; exact hdx1) ⟨C, rfl, hC, dx, v, rfl, upd_same, none_sub q1.sub hdx1, d1⟩
def runE (k n : Nat) (eb : MX) (ds : List D) : Option Ex := if ds.length = k then (match eb (pad n ds) with | some (x, _) => some x | none => none) else none
theorem runE_len {k n : Nat} {eb : MX} {ds : List D} {x : Ex} (e : runE k n eb ds = some x) : ds.length = k := by
  unfold runE at e
  split at e
  · assumption
  · cases e
theorem sk_nev {t : TS} : SOk K t xnever := fun Fz ba G σ H Hs fl G' q e Dn p => by cases e
theorem hid_none {H Hs : Hp} {a : Addr} (h : hid H Hs a = none) (n : Hs a = none) : H a = none := by
  cases z : H a with
  | none => rfl
  | some o => rw [hid_of z n] at h; cases h
theorem XO.fr {H H' Hs Hs' : Hp} {x : Ex} {cls : Value} {d : Option Addr} (o : XO K H' Hs' x cls d) (s : Same Hs Hs') (h : ∀ a, d = some a → hid H Hs a = none) : ∀ a, d = some a → H a = none := fun a e => by
  subst e
  obtain ⟨C, _, _, m⟩ := o
  split at m
  · cases m
  · obtain ⟨a', v, e', _, n, _⟩ := m
    cases e'
    exact hid_none (h a rfl) (s.free n)
theorem fin_E {N : List PySem.Str} {k : Nat} {t : WX → TS} {eb : MX} (h : ES K t eb) (hk : k ≤ N.length) {vs : List V} {H : Hp} {Q : VK} {E : XK} (q : spE K (runE k N.length eb) vs H Q E) (D : Ends) : t (fun cls d _ H' => E cls d H') D (L2.start N vs) H := by
  obtain ⟨Hs, ds, x, s, d, e, kk⟩ := q
  have hl := runE_len e
  unfold runE at e
  rw [if_pos hl] at e
  have R0 := rel_start (N := N) s d (by rw [d.len, hl]; exact hk)
  split at e
  case h_2 => cases e
  rename_i y G' z
  cases e
  exact h _ _ _ _ _ _ _ x G' R0 z (fun cls d' σ' H' Hs' q1 s1 f o => kk cls d' H' Hs' (ext_end s rfl q1 s1) (o.fr s1 f) o) D
end
section
variable {P : Program} {w : World} {K : PySem.W.Frag} {mg : PySem.Str → Option Value} {base : Heap}
theorem data_E {x qual : PySem.Str} {st : Stmt} {f : Addr} {fd : FuncData} {N ps : List PySem.Str} {k : Nat} {eb : MX} (F : Fun K x qual st f fd) (S : FnScope N ps (defScope st))
    (hb : ∀ (cdv : Value) (A : Around) (outer : List Env) (s : Shared) (H : Hp) (E : XK), Room k (A.deeper (PyProof.Rows.envOfC qual (defScope st) s.heap.objs.size f cdv)) →
      ∃ t : WX → TS, (∀ W, Takes (cxOf (L2.CX P w) P w K mg base N qual (defScope st) f cdv A outer s H E) W → PSs (cxOf (L2.CX P w) P w K mg base N qual (defScope st) f cdv A outer s H E) (defBody st) (t W)) ∧ ES K t eb) :
    FnOk P w K mg base (L2.CX P w) (k + 1) f fd ps (spE K (runE ps.length N.length eb)) := by
  refine F.okX S (fun vs H Q E q => ?_) fun cdv A outer s H vs Q E hr q => ?_
  · obtain ⟨Hs, ds, x, s, d, e, _⟩ := q
    rw [d.len]
    exact runE_len e
  · obtain ⟨t, h1, h2⟩ := hb cdv A outer s H E hr
    exact ⟨_, h1 _ (takes_of rfl rfl rfl rfl), fin_E h2 (scope_le S) q _⟩
theorem fnOk_or {k k' l : Nat} {f : Addr} {fd : FuncData} {ps : List PySem.Str} {sp sp' : Sp} (F : FnOk P w K mg base CX0 k f fd ps sp) (G : FnOk P w K mg base (L2.CX P w) k' f fd ps sp') (h : k ≤ l) (h' : k' ≤ l) : FnOk P w K mg base (L2.CX P w) l f fd ps (fun vs H Q E => sp vs H Q E ∨ sp' vs H Q E) :=
  ⟨fun vs H Q E q => q.elim (fun q => F.len vs H Q E q) (fun q => G.len vs H Q E q), fun A outer s H args us vs Q E hr e0 hb rv q =>
    q.elim (fun q => (fnOk_cx F).run A outer s H args us vs Q E (hr.mono h) e0 hb rv q) (fun q => G.run A outer s H args us vs Q E (hr.mono h') e0 hb rv q)⟩
end
end Bk
namespace PySem.W
open PySem PySem.Spec PySem.Calls PyProof.Rows
section
variable {prog : Program} {w : World} {A : Around} {E : Value → Shared → Prop} {s : Shared} {K : Frag} {x D : Addr} {ox : Obj} {od : Option Obj}
theorem findObj_dataD {C : Addr} {name : Str} {a g : Value} (hc : (clsIn K C).isSome = true) (ha : findIn K (.ref C) name = some (some a)) (hg : specialIn K a "__get__" = some (some g)) (ht : takesIn K a = some true) : findObj K C od name = some (.bind g a) := by
  obtain ⟨cd, hc⟩ := Option.isSome_iff_exists.mp hc
  unfold findObj
  rw [hc, Option.bind_some, ha, Option.bind_some]
  simp [hg, ht]
/-- e.__class__ of an own exception with or without attributes -/
theorem kin_classD {Q : Option Value → Shared → Prop} (hga : findIn K (.ref D) "__getattribute__" = some (some (.builtin "BaseException.__getattribute__"))) (hgt : findIn K (.ref D) "__getattr__" = some none) (hsub : subIn K (.ref D) (.type "BaseException") = some true)
    (hdct : hasDictIn K D = true) (ha : findIn K (.ref D) "__class__" = some (some (.builtin "object.__class__")))
    (hn : specialIn K (.builtin "object.__class__") "__get__" = some (some (.builtin "getset_descriptor.__get__"))) (htk : takesIn K (.builtin "object.__class__") = some true) (hm : mroIn K D (.type "object") = some true)
    (X : K.In s.heap) (I : InstAt s.heap x ox D od) (h : Q (some (.ref D)) { s with toks := s.toks + 1 }) : wpAny (model prog w) A (getAttr? (.ref x) "__class__") Q E s := by
  have hf : findObj K D od "__class__" = some (.bind (.builtin "getset_descriptor.__get__") (.builtin "object.__class__")) := findObj_dataD (by obtain ⟨cd, hc, _⟩ := any_some hdct; rw [hc]; rfl) ha hn htk
  obtain ⟨hp, g, d, t, os⟩ := s
  have L0 := I.type (M := model prog w)
  have L1 := looks_findIn (M := model prog w) X hga
  have L2 := looks_findIn (M := model prog w) X hgt
  have L3 := looks_find (M := model prog w) X I hf
  have sub : Looks (model prog w) hp (isInstance (.ref x) (.type "BaseException")) true := L0.andThen (looks_subIn X hsub)
  have hx0 : (false && onTheHeap (Value.builtin "BaseException.__getattribute__")) = false := rfl
  have hx2 : (Value.builtin "BaseException.__getattribute__" == Value.builtin "object.__getattribute__") = false := by decide +kernel
  have hx1 : (onTheHeap (Value.ref D) && Value.builtin "BaseException.__getattribute__" == Value.builtin "object.__getattribute__") = false := by rw [hx2]; rfl
  unfold getAttr? getAttrBy? getAttrBy
  refine wpAny_bind (wpAny_mkText (wpAny_bind (wpAny_attempt (wpAny_holding (wpAny_bind (L0.at (wpAny_bind (L1.at ?_))))))))
  show wpAny _ _ (if (onTheHeap (Value.ref D) && Value.builtin "BaseException.__getattribute__" == Value.builtin "object.__getattribute__") = true then _ else _) _ _ _
  rw [hx1, if_neg Bool.false_ne_true]
  unfold getAttrByItsOwn hookBefore
  refine wpAny_bind ?_
  rw [if_pos (show onTheHeap (Value.ref D) = true from rfl)]
  refine L2.at ?_
  refine wpAny_bind (wpAny_attempt (wpAny_holding ?_))
  unfold callGetattribute
  rw [hx0, if_neg Bool.false_ne_true]
  unfold boundAndCalled
  rw [PySem.F.excAttr_ValueError.ga.bind (.ref x)]
  refine wpAny_bind (wpAny_pure ?_)
  show wpAny _ _ (call (.builtin "BaseException.__getattribute__") [.ref x, .str "__class__" t]) _ _ _
  refine wpAny_call (codeAny_call_builtin PySem.F.excAttr_ValueError.ga.plain PySem.F.entry_bexc_ga ?_)
  refine @check_slot (model prog w) _ _ ⟨hp, g, d, t + 1, os⟩ "BaseException.__getattribute__" "BaseException" "__getattribute__" (.ref x) [.str "__class__" t] [] _ (by decide +kernel) (by decide +kernel) sub (PySem.F.args_bexc_ga (.ref x) (.str "__class__" t)) ?_
  unfold Builtin.«object.__getattribute__»
  refine wpAny_bind (wpAny_of_eq (a := ((Value.ref x : Value), [Value.str "__class__" t])) (by first | rfl | (simp only [slotArgs]; rfl)) ?_)
  refine wpAny_bind (wpAny_pure (wpAny_bind (L0.at (wpAny_bind (L3.at ?_)))))
  show wpAny _ _ (holding [Value.builtin "object.__class__"] (call (.builtin "getset_descriptor.__get__") [.builtin "object.__class__", .ref x, .ref D]) >>= ret) _ _ _
  refine wpAny_bind (wpAny_holding (wpAny_call (class_get (s := ⟨hp, g, d, t + 1, os⟩) (ox := ox) (od := od) X I hm ?_)))
  refine wpAny_pure ?_
  show wpAny _ _ (handedOut (.ref D)) _ _ _
  rw [handedOut_of (v := .ref D) rfl]
  first
    | exact wpAny_pure (wpAny_pure h)
    | exact wpAny_pure h
    | exact wpAny_pure (wpAny_bind (wpAny_pure (wpAny_pure h)))
theorem kitx_excD (hga : findIn K (.ref D) "__getattribute__" = some (some (.builtin "BaseException.__getattribute__"))) (hgt : findIn K (.ref D) "__getattr__" = some none) (hsub : subIn K (.ref D) (.type "BaseException") = some true) (hdct : hasDictIn K D = true) (ha : findIn K (.ref D) "__class__" = some (some (.builtin "object.__class__")))
    (hn : specialIn K (.builtin "object.__class__") "__get__" = some (some (.builtin "getset_descriptor.__get__"))) (htk : takesIn K (.builtin "object.__class__") = some true) (hm : mroIn K D (.type "object") = some true) :
    KitX K (.ref x) (.ref D) (fun h => InstAt h x ox D od) where
  ty := fun _ _ _ I => I.type
  it := fun _ _ X _ => by
    obtain ⟨cdD, hcD, _⟩ := any_some hdct
    unfold clsIn at hcD
    split at hcD
    · rename_i c' d' cd' sl' ho
      intro A' Q' E' s' k q
      unfold isType loadHead
      exact wpAny_bind (wpAny_loadPart (k _ _ (X _ _ ho)) (wpAny_pure q))
    · cases hcD
  ne := (handS_kitx_exc (x := x) (ox := ox) hga hgt hsub hdct ha hn htk hm).ne
  ca := fun X I k => kin_classD hga hgt hsub hdct ha hn htk hm X I k
end
end PySem.W
namespace Bk
open PySem L2 PyProof.Rows
/-- isinstance(e, c), e the exception that the suite holds, with or without attributes -/
def rIsX (K : PySem.W.Frag) (cls : Value) (d : Option Addr) (a : Addr) : List V → Hp → VK → Prop := fun xs H Q => ∃ D : Addr, cls = .ref D ∧ (d = none ∨ ∃ dd fs, d = some dd ∧ H dd = some (.xd fs)) ∧ ExcC K D ∧ rIsE K D a xs H Q
theorem call_isX {X : Cx} {a : Addr} {oe : Obj} {cls : Value} {d : Option Addr} {pn : List (Addr × Obj)} (hz : Zc cls d oe) (hf : ∃ vs, oe.data = .fields vs) : CallR (X.suite a ((a, oe) :: pn)) (.builtin "isinstance") (rIsX X.K cls d a) := by
  intro pins s σ H xs us Q I r h
  obtain ⟨D, rfl, hd, hC, h⟩ := h
  rcases hd with rfl | ⟨dd, fs, rfl, ea⟩
  · exact call_isE hC hz hf pins s σ H xs us Q I r h
  · obtain ⟨c, cv, b, rfl, hcv, e, q⟩ := h
    cases r with
    | cons rx rr =>
      cases rr with
      | cons rt rr =>
        cases rr
        cases rx
        have ec := hcv _ rt
        subst ec
        obtain ⟨hget, _⟩ := I.pin (a, oe) (List.mem_append.mpr (.inl List.mem_cons_self))
        obtain ⟨vs, hv⟩ := hf
        have hx : ObjOk X.prog X.w H s.heap dd (.xd fs) := I.hok dd _ ea
        obtain ⟨mA, hns, hr⟩ := hx
        obtain ⟨od, ho, hl⟩ := lookIn_ns hns
        have J : PySem.W.InstAt s.heap a oe D (some od) := ⟨hget, hz.1, by unfold PySem.W.notCls; rw [hv] <;> rfl, by rw [hz.2]; exact ho⟩
        exact PySem.W.kia_one (PySem.W.kitx_excD hC.hg hC.hk hC.hs hC.hd hC.ha hC.hn hC.ht hC.hm) I.kIn J e (fun z => nomatch z) fun tk => ⟨.bl b, H, I.kept (t' := tk) fun _ _ z => z, rfl, q⟩
def wManyAs (K : PySem.W.Frag) (i : Nat) (Wout : WX) (D : Ends) : List (Value × (Addr → Value → Option Addr → TS)) → WX
  | [] => Wout
  | (c, ts) :: r => fun cls d σ H => ∃ b, PySem.W.exmOne K cls c = some b ∧ (b = true → ∀ a, H a = none → ts a cls d { nx := fun σ' H' => D.nx (σ'.set i none) H', rt := D.rt, bk := fun σ' H' => D.bk (σ'.set i none) H', ct := fun σ' H' => D.ct (σ'.set i none) H' } (σ.set i (some (.ref a))) H) ∧
      (b = false → wManyAs K i Wout D r cls d σ H)
/-- the statement: the body's reading tb, its clauses l -/
def tTryL (K : PySem.W.Frag) (i : Nat) (Wout : WX) (l : List (Value × (Addr → Value → Option Addr → TS))) (tb : WX → TS) : TS := fun D σ H => tb (wManyAs K i Wout D l) D σ H
inductive HdsAs (X : Cx) (n : PySem.Str) : List ExceptHandler → List (Value × (Addr → Value → Option Addr → TS)) → Prop
  | nil : HdsAs X n [] []
  | cons {x : PySem.Str} {c : Value} {ts : Addr → Value → Option Addr → TS} {b₀ : Stmt} {suite : List Stmt} {np pos' : Pos} {hds : List ExceptHandler} {l : List (Value × (Addr → Value → Option Addr → TS))} (hc : Names X x c)
      (hsu : ∀ (a : Addr) (oe : Obj) (cls : Value) (d : Option Addr) (pn : List (Addr × Obj)), Zc cls d oe → (∃ vs, oe.data = .fields vs) → PSs (X.suite a ((a, oe) :: pn)) (b₀ :: suite) (ts a cls d)) (r : HdsAs X n hds l) :
      HdsAs X n (.ExceptHandler (some (.Name x np)) (some n) (b₀ :: suite) pos' :: hds) ((c, ts) :: l)
section
variable {X : Cx} {n : PySem.Str} {i : Nat} {body : List Stmt} {h₀ : ExceptHandler} {hds : List ExceptHandler} {l : List (Value × (Addr → Value → Option Addr → TS))} {pos : Pos} {tb : WX → TS} {Wout : WX}
theorem ps_tryL (hs : X.stack = X.env :: X.outer) (hf : X.env.frame = some X.env.locals) (hN : X.N.Nodup) (hi : X.N[i]? = some n) (hln : X.env.kindOf n = some .local) (tk : Takes X Wout)
    (hb : ∀ (W : WX) (pn : List (Addr × Obj)) (xe : Value → Shared → Prop), Takes (X.tr pn xe) W → PassesOwn (model X.prog X.w) X.A X.env xe → PSs (X.tr pn xe) body (tb W))
    (hh : HdsAs X n (h₀ :: hds) l) : PS X (.Try body (h₀ :: hds) [] [] pos) (tTryL X.K i Wout l tb) := by
  refine ⟨fun pins s σ H D I h => ?_⟩
  have ok := I.ok
  have hfr : X.A.frames = some (X.env :: X.outer) := by rw [ok.frames, hs]
  have hloc : Loc X.env.scope n := .inl hln
  refine wpAny_Try_except ?_
  refine wpAny_mono ((hb (wManyAs X.K i Wout D l) (X.pn ++ pins) (fun e s₁ => wpAny (model X.prog X.w) X.A (noteFrame e X.env) (fun _ s₂ => wpAny (model X.prog X.w) X.A (setFlight e none) (fun _ s₃ =>
    wpAny (model X.prog X.w) X.A (handleBy e X.env (h₀ :: hds)) (SP X pins D) X.xe s₃) X.xe s₂) X.xe s₁) (fun u s' xx => ?_) PassesOwn.looking).run [] s σ H D (I.toTry _) h) (fun f s1 hsp => ?_) (fun e s1 he => he)
  · -- caught
    obtain ⟨a, B, sI, pins', σ', H', cls, d, rfl, J', nb, up, sky, na, os, ag, w⟩ := xx
    have J : Inv X pins σ' H' sI := J'.ofTry ok
    have sky' : Sky B (X.env :: X.outer) a (Zc cls d) X.env.locals s'.heap := by rw [← hs]; exact sky
    show wpAny (model X.prog X.w) X.A (noteFrame (.ref a) X.env) _ _ _
    refine Sky.land Zc.steady hfr hf sky' fun h3 fl3 up3 => ?_
    have J3 : Inv X pins σ' H' { s' with heap := h3 } := J.landed nb fl3.1 (up.trans up3) os ag
    obtain ⟨oe3, vs3, he3, hz3, hd3⟩ := fl3.there
    have notFr : ∀ {h : Heap} {o : Obj} {vs : Array Value}, h.FunFrames B (X.env :: X.outer) → h.get? a = some o → o.data = .fields vs → a ∉ frs (X.env :: X.outer) := fun {h o vs} ff e dd hm => by
      obtain ⟨_, o', e', hnf⟩ := ff.mem hm
      rw [e] at e'; cases e'
      exact hnf _ dd
    have nfr := notFr fl3.2.2.1 he3 hd3
    have nL : a ≠ X.env.locals := fun z => nfr (List.mem_filterMap.mpr ⟨X.env, List.mem_cons_self, by rw [hf, z]⟩)
    have nF : a ∉ X.fs := fun hm => by
      obtain ⟨e, he, q⟩ := List.mem_filterMap.mp hm
      exact nfr (List.mem_filterMap.mpr ⟨e, List.mem_cons_of_mem _ he, q⟩)
    have S3 := J3.suite he3 hd3 na nL nF
    have go : ∀ {hds' : List ExceptHandler} {l' : List (Value × (Addr → Value → Option Addr → TS))}, HdsAs X n hds' l' → wManyAs X.K i Wout D l' cls d σ' H' →
        wpAny (model X.prog X.w) X.A (handleBy (.ref a) X.env hds') (SP X pins D) X.xe { s' with heap := h3 } := by
      intro hds' l' hk
      induction hk with
      | nil =>
        intro w
        refine wpAny_handleBy_nil ?_
        obtain ⟨k1, k2, k3, oe, vs, T, oT, ts', he, hz, hd, h1, hr⟩ := id fl3
        unfold PySem.passOn
        refine wpAny_bind (wpAny_field he hd h1 ?_)
        rw [if_neg (show ¬ ((Value.ref T == Value.none) = true) from by simp)]
        have fin : wpAny (model X.prog X.w) X.A (setFlight (.ref a) X.env.frame) (fun _ s4 => wpAny (model X.prog X.w) X.A (throw (.ref a) : Sem Flow) (SP X pins D) X.xe s4) X.xe { s' with heap := h3 } := by
          rw [hf]
          refine HandSPX.setFlight_upZ fl3 fun h4 hh4 up4 => wpAny_throw (tk _ _ ?_)
          exact ⟨a, B, sI, pins, σ', H', cls, d, rfl, J, nb, (up.trans up3).trans up4, .inr (.inr (by rw [hs]; exact hh4)), na, os, ag, w⟩
        first
          | exact wpAny_bind (wpAny_pure (wpAny_bind fin))
          | exact wpAny_bind fin
      | @cons x c ts b₀ suite np pos' hds2 l2 hc hsu r ih =>
        intro w
        obtain ⟨b, hb1, hyes, hno⟩ := w
        refine wpAny_handleBy_cons (codeAny_handlers_test ?_) (by intro q; cases q)
        have LT : PySem.W.Looks (model X.prog X.w) h3 (typeOf (.ref a)) cls := fun A Q E s k q => wpAny_typeOf_ref (k _ _ he3) (by rw [hz3.1]; exact q)
        have LM := PySem.W.exm_one (M := model X.prog X.w) (J3.kIn) LT hb1
        have test : ∀ {Q : Value → Shared → Prop} {E : Value → Shared → Prop}, Q c { s' with heap := h3 } → wpAny (model X.prog X.w) (X.A.mark (some (.ref a))) (eval (.Name x np) X.env) Q E { s' with heap := h3 } := fun {Q E} q => by
          obtain ⟨hg, hdbg, hm | ⟨hm, hv, hnn⟩⟩ := hc
          · exact ld_glob (X := X.suite a ((a, oe3) :: (X.pn ++ pins))) S3 hg hm q hdbg
          · exact ld_blt (X := X.suite a ((a, oe3) :: (X.pn ++ pins))) S3 hg hm hv q hnn hdbg
        refine test (LM.here ?_)
        cases b with
        | true =>
          refine codeAny_handlers_suite_as ?_
          refine HandSPX.lands_againZ fl3 fun h4 fl4 up4 => ?_
          have J4 : Inv X pins σ' H' { s' with heap := h4 } := J.landed nb fl4.1 ((up.trans up3).trans up4) os ag
          obtain ⟨oe4, vs4, he4, hz4, hd4⟩ := fl4.there
          have S4 := J4.suite he4 hd4 na nL nF
          refine store_ok (X := X.suite a ((a, oe4) :: (X.pn ++ pins))) (v := .ref a) S4 hN hi hloc rfl (fun s5 S5 => ?_) (.inr hln)
          refine wpAny_mono ((hsu a oe4 cls d (X.pn ++ pins) hz4 ⟨_, hd4⟩).run [] s5 _ H' _ S5 (hyes rfl a na)) (fun f s6 hsp => ?_) (fun _ _ z => False.elim z)
          have end_ : ∀ {σ6 : L2.St} {H6 : Hp} {Q : Shared → Prop}, Inv (X.suite a ((a, oe4) :: (X.pn ++ pins))) [] σ6 H6 s6 → (∀ s7, Inv X pins (σ6.set i none) H6 s7 → Q s7) →
              wpAny (model X.prog X.w) X.A (do bindName X.env n .none; unbindBehindTheSuite X.env n pos') (fun _ s7 => Q s7) X.xe s6 := fun {σ6 H6 Q} S6 hq => gone_ok (S6.unsuite ok) hN hi hln hq
          cases f with
          | next =>
            obtain ⟨σ6, H6, S6, q6⟩ := hsp
            exact end_ S6 fun s7 J7 => ⟨_, _, J7, q6⟩
          | brk =>
            obtain ⟨σ6, H6, S6, q6⟩ := hsp
            exact end_ S6 fun s7 J7 => ⟨_, _, J7, q6⟩
          | cont =>
            obtain ⟨σ6, H6, S6, q6⟩ := hsp
            exact end_ S6 fun s7 J7 => ⟨_, _, J7, q6⟩
          | ret u =>
            obtain ⟨v6, σ6, H6, S6, r6, q6⟩ := hsp
            exact end_ S6 fun s7 J7 => ⟨_, _, _, J7, r6, q6⟩
        | false =>
          show wpAny _ X.A (handleBy (.ref a) X.env hds2) _ _ _
          exact ih (hno rfl)
    exact go hh w
  · cases f with
    | next =>
      obtain ⟨σ', H', J', q⟩ := hsp
      exact wpAny_execs_nil ⟨σ', H', J'.ofTry ok, q⟩
    | brk =>
      obtain ⟨σ', H', J', q⟩ := hsp
      exact ⟨σ', H', J'.ofTry ok, q⟩
    | cont =>
      obtain ⟨σ', H', J', q⟩ := hsp
      exact ⟨σ', H', J'.ofTry ok, q⟩
    | ret u =>
      obtain ⟨v, σ', H', J', r, q⟩ := hsp
      exact ⟨v, σ', H', J'.ofTry ok, r, q⟩
end
/-- d is what the exception x holds -/
def PX (K : PySem.W.Frag) (x : Ex) (d : Option Addr) (Fz Hs : Hp) : Prop := match x.v with
  | none => d = none
  | some y => ∃ (dd : Addr) (v : V), d = some dd ∧ Fz dd = some (.xd [(xAttr x.c, v)]) ∧ DR K Hs v y
theorem PX.mono {K : PySem.W.Frag} {x : Ex} {d : Option Addr} {Fz Hs Hs' : Hp} (h : PX K x d Fz Hs) (s : Same Hs Hs') : PX K x d Fz Hs' := by
  unfold PX at h ⊢
  split at h
  · exact h
  · obtain ⟨dd, v, h1, h2, h3⟩ := h
    exact ⟨dd, v, h1, h2, h3.mono s⟩
def GX (K : PySem.W.Frag) (i : Nat) (a : Addr) (d : Option Addr) (x : Ex) (t : TE) (f : M R) : Prop := ∀ Fz ba G σ H Hs r G', Rel K Fz ba G σ H Hs → PX K x d Fz Hs → σ[i]? = some (some (.ref a)) → f G = some (r, G') →
  ∀ Q : VK, (∀ v H' Hs', Rel K Fz ba G' σ H' Hs' → Same Hs Hs' → Res K Fz G' σ H' Hs' v r → Q v H') → t σ H Q
def TX (K : PySem.W.Frag) (i : Nat) (a : Addr) (d : Option Addr) (x : Ex) (t : TT) (f : M Bool) : Prop := ∀ Fz ba G σ H Hs b G', Rel K Fz ba G σ H Hs → PX K x d Fz Hs → σ[i]? = some (some (.ref a)) → f G = some (b, G') →
  ∀ Q : Bool → Hp → Prop, (∀ H' Hs', Rel K Fz ba G' σ H' Hs' → Same Hs Hs' → Q b H') → t σ H Q
section
variable {K : PySem.W.Frag} {i : Nat} {a : Addr} {d : Option Addr} {x : Ex}
theorem gx_of {t : TE} {f : M R} (h : GOk K t f) : GX K i a d x t f := fun Fz ba G σ H Hs r G' q p s e Q k => h Fz ba G σ H Hs r G' q e Q k
theorem GX.im {t : TE} {f : M R} (h : GX K i a d x t f) {Fz : Hp} {ba : Nat → Addr} {G : Gam} {σ : L2.St} {H Hs : Hp} {r : R} {G' : Gam} (q : Rel K Fz ba G σ H Hs) (p : PX K x d Fz Hs) (s : σ[i]? = some (some (.ref a))) (e : f G = some (r, G')) {Q : VK}
    (k : ∀ v H' Hs', Rel K Fz ba G' σ H' Hs' → Same Hs Hs' → DR K Hs' v r.d → Q v H') : t σ H Q := h Fz ba G σ H Hs r G' q p s e Q fun v H' Hs' q1 s1 r1 => by
  obtain ⟨Hs2, q2, s2, d2⟩ := q1.fzr r1
  exact k v H' Hs2 q2 (s1.trans s2) d2
/-- e.f -/
theorem gx_fld {C : Addr} {y : D} (hv : x.v = some y) : GX K i a d x (tXf a (.ref C) d C (xAttr x.c) (tVar i)) (xc y) := fun Fz ba G σ H Hs r G' q p s e Q k => by
  cases e
  unfold PX at p
  rw [hv] at p
  obtain ⟨dd, v, h1, h2, h3⟩ := p
  exact ⟨.ref a, s, rfl, rfl, dd, _, v, h1, (q.fz dd _ h2).1, by simp [List.lookup], k v H Hs q (Same.refl _) h3⟩
def xtb (b : Bool) : M Bool := fun G => some (b, G)
/-- isinstance(e, B) -/
theorem tx_isE {C B : Addr} {b : Bool} (EC : ExcC K C) (kB : PySem.W.kitOne K (.ref C) (.ref B) = some b) : TX K i a d x (tB (tCB (rIsX K (.ref C) d a) (tCons (tVar i) (tCons (tC (.ref B)) tNil)))) (xtb b) := fun Fz ba G σ H Hs r G' q p s e Q k => by
  cases e
  refine ⟨.ref a, s, C, rfl, ?_, EC, .ref B, .ref B, b, rfl, fun u h => h, kB, b, rfl, k H Hs q (Same.refl _)⟩
  unfold PX at p
  split at p
  · exact .inl p
  · obtain ⟨dd, v, h1, h2, h3⟩ := p
    exact .inr ⟨dd, _, h1, (q.fz dd _ h2).1⟩
theorem tx_and {t u : TT} {f g : M Bool} (h1 : TX K i a d x t f) (h2 : TX K i a d x u g) : TX K i a d x (tAnd t u) (xtand f g) := fun Fz ba G σ H Hs r G' q p s e Q k => by
  obtain ⟨b, G1, e1, e⟩ := bd_inv e
  refine h1 Fz ba G σ H Hs b G1 q p s e1 _ fun H1 Hs1 q1 s1 => ?_
  cases b with
  | true => exact (if_pos rfl).mpr (h2 Fz ba G1 σ H1 Hs1 r G' q1 (p.mono s1) s e _ fun H2 Hs2 q2 s2 => k H2 Hs2 q2 (s1.trans s2))
  | false => cases e; exact (if_neg (by decide)).mpr (k H1 Hs1 q1 s1)
theorem tx_not {t : TT} {f : M Bool} (h1 : TX K i a d x t f) : TX K i a d x (tNot t) (xtnot f) := fun Fz ba G σ H Hs r G' q p s e Q k => by
  obtain ⟨b, G1, e1, e⟩ := bd_inv e
  cases e
  exact h1 Fz ba G σ H Hs b _ q p s e1 _ fun H1 Hs1 q1 s1 => k H1 Hs1 q1 s1
theorem gx_if {t : TT} {ta tb : TE} {c : M Bool} {f g : M R} (hc : TX K i a d x t c) (h1 : GX K i a d x ta f) (h2 : GX K i a d x tb g) : GX K i a d x (tIf t ta tb) (xif c f g) := fun Fz ba G σ H Hs r G' q p s e Q k => by
  obtain ⟨b, G1, e1, e⟩ := bd_inv e
  refine hc Fz ba G σ H Hs b G1 q p s e1 _ fun H1 Hs1 q1 s1 => ?_
  cases b with
  | true => exact (if_pos rfl).mpr (h1 Fz ba G1 σ H1 Hs1 r G' q1 (p.mono s1) s e _ fun v H2 Hs2 q2 s2 r2 => k v H2 Hs2 q2 (s1.trans s2) r2)
  | false => exact (if_neg (by decide)).mpr (h2 Fz ba G1 σ H1 Hs1 r G' q1 (p.mono s1) s e _ fun v H2 Hs2 q2 s2 r2 => k v H2 Hs2 q2 (s1.trans s2) r2)
theorem Rel.junk {Fz : Hp} {ba : Nat → Addr} {G : Gam} {σ : L2.St} {H Hs : Hp} (r : Rel K Fz ba G σ H Hs) (i : Nat) (v : Option V) : Rel K Fz ba (G.set i .un) (σ.set i v) H Hs where
  sub := r.sub
  fz := r.fz
  len := by rw [List.length_set, List.length_set]; exact r.len
  im := fun j d e => by
    rcases get_set e with ⟨_, e1, _⟩ | ⟨z, e1⟩
    · cases e1
    · rw [List.getElem?_set_ne z]
      exact r.im j d e1
  mu := fun j en ds e e0 => by
    rcases get_set e with ⟨_, e1, _⟩ | ⟨z, e1⟩
    · subst e1; cases e0
    · rw [List.getElem?_set_ne z]
      exact r.mu j en ds e1 e0
  dj := fun j k e e' l h1 h2 m1 m2 s1 s2 => by
    rcases get_set h1 with ⟨_, e1, _⟩ | ⟨z1, e1⟩
    · subst e1; exact absurd rfl m1
    · rcases get_set h2 with ⟨_, e2, _⟩ | ⟨z2, e2⟩
      · subst e2; exact absurd rfl m2
      · rw [List.getElem?_set_ne z1] at s1
        rw [List.getElem?_set_ne z2] at s2
        exact r.dj j k e e' l e1 e2 m1 m2 s1 s2
  bx := fun j ds e => by
    rcases get_set e with ⟨_, e1, _⟩ | ⟨z, e1⟩
    · cases e1
    · rw [List.getElem?_set_ne z]
      exact r.bx j ds e1
/-- one thing more is hidden, that no slot owns -/
theorem Rel.more {Fz : Hp} {ba : Nat → Addr} {G : Gam} {σ : L2.St} {H Hs : Hp} (r : Rel K Fz ba G σ H Hs) {dd : Addr} {fs : List (PySem.Str × V)} (h : H dd = some (.xd fs)) (n : Hs dd = none) : Rel K (upd Fz dd (.xd fs)) ba G σ H Hs where
  sub := r.sub
  fz := fun b o e => by
    by_cases z : b = dd
    · subst z
      rw [upd_same] at e
      cases e
      exact ⟨h, n⟩
    · rw [upd_ne z] at e
      exact r.fz b o e
  len := r.len
  im := r.im
  mu := fun j en ds e e0 => by
    obtain ⟨l, o, h1, h2, h3, h4, h5⟩ := r.mu j en ds e e0
    refine ⟨l, o, h1, h2, h3, ?_, h5⟩
    rw [upd_ne fun z => ?_]
    · exact h4
    · subst z
      rw [h] at h2
      cases h2
      cases ds with
      | l _ => obtain ⟨_, z, _⟩ := h5; cases z
      | o _ _ => obtain ⟨_, _, _, _, z, _⟩ := h5; cases z
  dj := r.dj
  bx := r.bx
theorem Rel.less {Fz : Hp} {ba : Nat → Addr} {G : Gam} {σ : L2.St} {H Hs : Hp} {dd : Addr} {o9 : HO} (r : Rel K (upd Fz dd o9) ba G σ H Hs) (n : Fz dd = none) : Rel K Fz ba G σ H Hs where
  sub := r.sub
  fz := fun b o e => r.fz b o (by rw [upd_ne (fun z => by rw [z, n] at e; cases e)]; exact e)
  len := r.len
  im := r.im
  mu := fun j en ds e e0 => by
    obtain ⟨l, o, h1, h2, h3, h4, h5⟩ := r.mu j en ds e e0
    refine ⟨l, o, h1, h2, h3, ?_, h5⟩
    by_cases z : l = dd
    · rw [z]; exact n
    · rw [upd_ne z] at h4; exact h4
  dj := r.dj
  bx := r.bx
/-- a clause: which classes it catches, what the suite stores -/
structure HCl (K : PySem.W.Frag) (i : Nat) (cs : List Nat) (c : Value) (te : Addr → Value → Option Addr → TE) (sel : Nat → Bool) (f : Ex → M R) : Prop where
  exm : ∀ n C, n ∈ cs → XAt K n C → PySem.W.exmOne K (.ref C) c = some (sel n)
  run : ∀ (x : Ex) C a d, x.c ∈ cs → sel x.c = true → XAt K x.c C → GX K i a d x (te a (.ref C) d) (f x)
inductive HsOk (K : PySem.W.Frag) (i j : Nat) (cs : List Nat) : List (Value × (Addr → Value → Option Addr → TS)) → List ((Nat → Bool) × (Ex → M R)) → Prop
  | nil : HsOk K i j cs [] []
  | cons {c : Value} {te : Addr → Value → Option Addr → TE} {sel : Nat → Bool} {f : Ex → M R} {l : List (Value × (Addr → Value → Option Addr → TS))} {hs : List ((Nat → Bool) × (Ex → M R))} (h : HCl K i cs c te sel f) (r : HsOk K i j cs l hs) :
      HsOk K i j cs ((c, fun a cls d => tAsg (te a cls d) (gName j)) :: l) ((sel, f) :: hs)
def pickH (x : Ex) : List ((Nat → Bool) × (Ex → M R)) → Option (M R)
  | [] => none
  | (s, f) :: hs => if s x.c then some (f x) else pickH x hs
/-- try: b except ..: slot j gets what the clause says -/
def xtry (i j : Nat) (cs : List Nat) (b : MS) (eb : MX) (hs : List ((Nat → Bool) × (Ex → M R))) : MS := fun G => match eb G with
  | none => b G
  | some (x, G1) => if x.c ∈ cs ∧ i < G1.length then (match pickH x hs with
    | some f => match f (G1.set i .un) with
      | some (r, G2) => some (.nx, (G2.set j r.ent).set i .un)
      | none => none
    | none => none) else none
theorem sk_try {i j : Nat} {cs : List Nat} {tb : WX → TS} {b : MS} {eb : MX} {Wout : WX} {l : List (Value × (Addr → Value → Option Addr → TS))} {hs : List ((Nat → Bool) × (Ex → M R))} (hb : ∀ W, SOk K (tb W) b) (he : ES K tb eb) (hh : HsOk K i j cs l hs) :
    SOk K (tTryL K i Wout l tb) (xtry i j cs b eb hs) := fun Fz ba G σ H Hs fl G' q e Dn p => by
  unfold xtry at e
  split at e
  case h_1 hr => exact hb _ Fz ba G σ H Hs fl G' q e Dn p
  case h_2 x G1 e1 =>
    split at e
    case isFalse => cases e
    rename_i hx
    obtain ⟨hx, hi⟩ := hx
    refine he _ Fz ba G σ H Hs x G1 q e1 (fun cls d σ1 H1 Hs1 q1 s1 fr o => ?_) Dn
    have hi : i < σ1.length := by rw [q1.len]; exact hi
    have go : ∀ {l : List (Value × (Addr → Value → Option Addr → TS))} {hs : List ((Nat → Bool) × (Ex → M R))}, HsOk K i j cs l hs → (match pickH x hs with
      | some f => match f (G1.set i .un) with
        | some (r, G2) => some (Fl.nx, (G2.set j r.ent).set i .un)
        | none => none
      | none => none) = some (fl, G') → wManyAs K i Wout Dn l cls d σ1 H1 := by
      intro l hs hk
      induction hk with
      | nil => intro e; cases e
      | @cons c te sel f l2 hs2 h r ih =>
        intro e
        have o9 := o
        obtain ⟨C, rfl, hC, m⟩ := o9
        refine ⟨sel x.c, h.exm _ _ hx hC, fun hs1 a na => ?_, fun hs1 => ?_⟩
        · unfold pickH at e
          rw [if_pos hs1] at e
          simp only at e
          split at e
          case h_2 => cases e
          rename_i r2 G2 e2
          cases e
          have run := h.run x C a d hx hs1 hC
          have R1 := q1.junk i (some (.ref a))
          have fin : ∀ (Fz' : Hp), Rel K Fz' ba (G1.set i .un) (σ1.set i (some (.ref a))) H1 Hs1 → PX K x d Fz' Hs1 → (∀ G σ H Hs, Rel K Fz' ba G σ H Hs → Rel K Fz ba G σ H Hs) →
              tAsg (te a (.ref C) d) (gName j) { nx := fun σ' H' => Dn.nx (σ'.set i none) H', rt := Dn.rt, bk := fun σ' H' => Dn.bk (σ'.set i none) H', ct := fun σ' H' => Dn.ct (σ'.set i none) H' } (σ1.set i (some (.ref a))) H1 := fun Fz' R2 px bk =>
            run Fz' ba _ _ H1 Hs1 r2 G2 R2 px (List.getElem?_set_self hi) e2 _ fun v H2 Hs2 q2 s2 r3 =>
              p _ H2 Hs2 (bk _ _ _ _ (((q2.set (i := j) r3).junk i none))) (s1.trans s2)
          cases hv : x.v with
          | none =>
            rw [hv] at m
            exact fin Fz R1 (by unfold PX; rw [hv]; exact m) fun _ _ _ _ q => q
          | some y =>
            rw [hv] at m
            obtain ⟨dd, v, rfl, hdd, n, dr⟩ := m
            have nf := fr dd rfl
            exact fin _ (R1.more hdd n) (by unfold PX; rw [hv]; exact ⟨dd, v, rfl, upd_same, dr⟩) fun _ _ _ _ q => q.less nf
        · unfold pickH at e
          rw [if_neg (by rw [hs1]; decide)] at e
          exact ih e
    exact go hh e
end
/-- an exception class of the text with an attribute -/
structure XT (K : PySem.W.Frag) (mg : PySem.Str → Option Value) (c : Nat) where
  C : Addr
  fI : Addr
  fl : PySem.Str
  qn : PySem.Str
  txt : PySem.UnvX.Txt K C fI fl qn (xAttr c)
  at_ : XAt K c C
  m : mg (xName c) = some (.ref C)
  ec : ExcC K C
  xf : XfC K C
/-- a class that a suite asks for -/
structure XB (mg : PySem.Str → Option Value) (x : PySem.Str) where
  C : Addr
  m : mg x = some (.ref C)
/-- what the suite reads of the exception -/
def xef (x : Ex) : M R := fun G => match x.v with
  | some y => some (.im y, G)
  | none => none
section
variable {K : PySem.W.Frag} {mg : PySem.Str → Option Value} {i : Nat} {a : Addr} {d : Option Addr} {x : Ex}
theorem gx_xef {C : Addr} {f : PySem.Str} (hf : xAttr x.c = f) : GX K i a d x (tXf a (.ref C) d C f (tVar i)) (xef x) := fun Fz ba G σ H Hs r G' q p s e Q k => by
  unfold xef at e
  cases hv : x.v with
  | none => rw [hv] at e; cases e
  | some y =>
    rw [hv] at e
    cases e
    subst hf
    exact gx_fld hv Fz ba G σ H Hs _ _ q p s rfl Q k
theorem bind_x {f : PySem.Str} (h : f = "word" ∨ f = "at") (qn : PySem.Str) (p1 p2 : Pos) (body : List Stmt) (sc : Scope) (kV doc pm : Value) (an : Option Addr) (cd ct : Value) (cc : Addr) (u v : Value) :
    bindArgs (PySem.W.ksFn "__init__" qn (PySem.UnvX.iA f p1 p2) body sc .none kV doc pm an cd ct cc) ⟨[u, v], []⟩ = pure [(("self" : PySem.Str), u), (f, v)] := by
  rcases h with rfl | rfl
  · first
      | rfl
      | with_unfolding_all rfl
  · first
      | rfl
      | with_unfolding_all rfl
theorem xAttr_or (c : Nat) : xAttr c = "word" ∨ xAttr c = "at" := by
  unfold xAttr
  split
  · exact .inl rfl
  · exact .inr rfl
/-- raise X(v), X a class of the text -/
theorem ps_rai {X : Cx} {W : WX} {c : Nat} {x : PySem.Str} {e : Expr} {ta : TE} {p pos pos' : Pos} (T : XT X.K X.mg c) (hx : xName c = x) (hfs : (xAttr c == ("self" : PySem.Str)) = false) (hfd : (xAttr c == ("__debug__" : PySem.Str)) = false) (hP : PFile X.prog T.fl) (hsu : X.mg "super" = none)
    (hc : X.calm = true) (tk : Takes X W) (hr : Room 2 X.A) (hg : Gl X x) (ha : PA X [e] (tCons ta tNil)) (hdb : (x == ("__debug__" : PySem.Str)) = false := by decide) (he : starEach [e] X.env = (false, eval e X.env) :: starEach [] X.env := by rfl) (hpl : (backTo pos (starEach [] X.env)).any (·.1) = false := by rfl) :
    PS X (.Raise (some (.Call (.Name x p) [e] [] pos)) none pos') (tRaise T.C (xAttr c) ta W) := by
  obtain ⟨fd, F, B⟩ := fn_init (P := X.prog) (w := X.w) (base := X.base) (CX := CX0) T.txt hfs hfd hP hsu (bind_x (xAttr_or c))
  subst hx
  exact ps_raise hc tk (pmk_oex (CX := CX0) T.txt.oex T.txt.iC T.txt.tC F hr B .nil pass0 hg T.m ha hdb he hpl)
end
end Bk
namespace Bk
open PySem L2
def c_NOUGHT : D := .tup [.int (0), .int (1)]
def c_ONE : D := .tup [.int (1), .int (1)]
def b_is_sequence : MS := (xret (xcb cbIsiS (xcons (xv 0) (xcons (xtup (xcons (xc (.ty "list")) (xcons (xc (.ty "tuple")) xnil))) xnil))))
def r_is_sequence : List D → Option R := runF 1 1 b_is_sequence
def b_is_less : MS := (xret (xop opLt (xop opMul (xop opIx (xv 0) (xc (.int 0))) (xop opIx (xv 1) (xc (.int 1)))) (xop opMul (xop opIx (xv 1) (xc (.int 0))) (xop opIx (xv 0) (xc (.int 1))))))
def r_is_less : List D → Option R := runF 2 2 b_is_less
def b_is_integer : MS := (xret (xvand (xcb (cbIsiU 0) (xcons (xv 0) (xcons (xc (.ty "int")) xnil))) (xvnot (xcb (cbIsiU 0) (xcons (xv 0) (xcons (xc (.ty "bool")) xnil))))))
def r_is_integer : List D → Option R := runF 1 1 b_is_integer
def b_divisor_1 : MS := (ypar 0 1 (ycons (xv 1) (ycons (xop opMod (xv 0) (xv 1)) ynil)))
def b_divisor : MS := (xseq (ypar 0 1 (ycons (xcb cbAbs (xcons (xv 0) xnil)) (ycons (xcb cbAbs (xcons (xv 1) xnil)) ynil)))
  (xseq (xwhile (fuelI 1) (xtest (xop opNe (xv 1) (xc (.int 0)))) b_divisor_1)
  (xret (xmv 0))))
def r_divisor : List D → Option R := runF 2 2 b_divisor
def b_is_pair : MS := (xseq (xifs (xtor (xtnot (xtru (xcb (cbIsiU 0) (xcons (xv 0) (xcons (xc (.ty "tuple")) xnil))))) (xtor (xtest (xop opNe (xcb cbLen (xcons (xv 0) xnil)) (xc (.int 2)))) (xtnot (xtru (xcb cbAll (xcons (xlc (xseqI (xv 0)) (tgn 1) xtyes (xcall r_is_integer (xcons (xv 1) xnil)) [1]) xnil)))))) (xret (xc (.bl false))) xnext)
  (xret (xvand (xop opGt (xop opIx (xv 0) (xc (.int 1))) (xc (.int 0))) (xop opEq (xcall r_divisor (xcons (xop opIx (xv 0) (xc (.int 0))) (xcons (xop opIx (xv 0) (xc (.int 1))) xnil))) (xc (.int 1))))))
def r_is_pair : List D → Option R := runF 1 2 b_is_pair
def b_is_value : MS := (xret (xvor (xcall r_is_integer (xcons (xv 0) xnil)) (xcall r_is_pair (xcons (xv 0) xnil))))
def r_is_value : List D → Option R := runF 1 1 b_is_value
def b_value_of : MS := (xret (xif (xtru (xcall r_is_integer (xcons (xv 0) xnil))) (xtup (xcons (xv 0) (xcons (xc (.int 1)) xnil))) (xv 0)))
def r_value_of : List D → Option R := runF 1 1 b_value_of
def b_is_between : MS := (xret (xvand (xcall r_is_value (xcons (xv 0) xnil)) (xvand (xvnot (xcall r_is_less (xcons (xcall r_value_of (xcons (xv 0) xnil)) (xcons (xv 1) xnil)))) (xvnot (xcall r_is_less (xcons (xv 2) (xcons (xcall r_value_of (xcons (xv 0) xnil)) xnil)))))))
def r_is_between : List D → Option R := runF 3 3 b_is_between
def b_is_share : MS := (xseq (xifs (xtor (xtnot (xtru (xcb (cbIsiU 0) (xcons (xv 0) (xcons (xc (.ty "tuple")) xnil))))) (xtor (xtest (xop opNe (xcb cbLen (xcons (xv 0) xnil)) (xc (.int 3)))) (xtnot (xtru (xcall r_is_value (xcons (xop opIx (xv 0) (xc (.int 2))) xnil)))))) (xret (xc (.bl false))) xnext)
  (xseq (xifs (xtor (xtnot (xtru (xcall r_is_between (xcons (xop opIx (xv 0) (xc (.int 0))) (xcons (xv 1) (xcons (xv 2) xnil)))))) (xtnot (xtru (xcall r_is_between (xcons (xop opIx (xv 0) (xc (.int 1))) (xcons (xv 1) (xcons (xv 2) xnil))))))) (xret (xc (.bl false))) xnext)
  (xret (xcall r_is_less (xcons (xcall r_value_of (xcons (xop opIx (xv 0) (xc (.int 0))) xnil)) (xcons (xcall r_value_of (xcons (xop opIx (xv 0) (xc (.int 1))) xnil)) xnil))))))
def r_is_share : List D → Option R := runF 3 3 b_is_share
def b_is_weight : MS := (xseq (xifs (xtor (xtnot (xtru (xcb (cbIsiU 0) (xcons (xv 0) (xcons (xc (.ty "tuple")) xnil))))) (xtest (xop opNe (xcb cbLen (xcons (xv 0) xnil)) (xc (.int 2))))) (xret (xc (.bl false))) xnext)
  (xret (xvand (xcall r_is_between (xcons (xop opIx (xv 0) (xc (.int 0))) (xcons (xv 1) (xcons (xv 2) xnil)))) (xcall r_is_value (xcons (xop opIx (xv 0) (xc (.int 1))) xnil)))))
def r_is_weight : List D → Option R := runF 3 3 b_is_weight
def b_ascending_1 : MS := (xset 1 (xop opFdiv (xop opMul (xv 1) (xv 3)) (xcall r_divisor (xcons (xv 1) (xcons (xv 3) xnil)))))
def b_ascending : MS := (xseq (xset 1 (xc (.int 1)))
  (xseq (xfor (xseqI (xv 0)) (tgt [(tgn 2), (tgn 3)]) b_ascending_1)
  (xseq (xset 4 (xcb cbSorted (xcons (xlc (xseqI (xv 0)) (tgn 5) xtyes (xtup (xcons (xop opMul (xop opIx (xv 5) (xc (.int 0))) (xop opFdiv (xv 1) (xop opIx (xv 5) (xc (.int 1))))) (xcons (xv 5) xnil))) [5]) xnil)))
  (xret (xlc (xenumA (xcons (xv 4) xnil)) (tgt [(tgn 6), (tgt [(tgn 7), (tgn 5)])]) (xtor (xtest (xop opEq (xv 6) (xc (.int 0)))) (xtest (xop opNe (xop opIx (xop opIx (xv 4) (xop opSub (xv 6) (xc (.int 1)))) (xc (.int 1))) (xv 5)))) (xv 5) [6, 7, 5])))))
def r_ascending : List D → Option R := runF 1 8 b_ascending
def b_lowest : MS := (xseq (xset 2 (xcall r_divisor (xcons (xv 0) (xcons (xv 1) xnil))))
  (xseq (xset 2 (xif (xtest (xop opLt (xv 1) (xc (.int 0)))) (xun unNeg (xv 2)) (xv 2)))
  (xret (xtup (xcons (xop opFdiv (xv 0) (xv 2)) (xcons (xop opFdiv (xv 1) (xv 2)) xnil))))))
def r_lowest : List D → Option R := runF 2 3 b_lowest
def b_added : MS := (xret (xcall r_lowest (xcons (xop opAddB (xop opMul (xop opIx (xv 0) (xc (.int 0))) (xop opIx (xv 1) (xc (.int 1)))) (xop opMul (xop opIx (xv 1) (xc (.int 0))) (xop opIx (xv 0) (xc (.int 1))))) (xcons (xop opMul (xop opIx (xv 0) (xc (.int 1))) (xop opIx (xv 1) (xc (.int 1)))) xnil))))
def r_added : List D → Option R := runF 2 2 b_added
def b_summed_1 : MS := (xset 1 (xcall r_added (xcons (xv 1) (xcons (xv 2) xnil))))
def b_summed : MS := (xseq (xset 1 (xc c_NOUGHT))
  (xseq (xfor (xseqI (xv 0)) (tgn 2) b_summed_1)
  (xret (xmv 1))))
def r_summed : List D → Option R := runF 1 3 b_summed
def b_least_shares_1 : MS := (xseq (xset 6 (xlc (xseqI (xv 1)) (tgt [(tgn 10), (tgn 11), (tgn 8)]) (xtand (xtnot (xtru (xcall r_is_less (xcons (xv 4) (xcons (xv 10) xnil))))) (xtnot (xtru (xcall r_is_less (xcons (xv 11) (xcons (xv 5) xnil)))))) (xv 8) [10, 11, 8]))
  (xseq (xset 7 (xcall r_summed (xcons (xv 6) xnil)))
  (xifs (xtand (xtest (xop opGt (xcb cbLen (xcons (xv 3) xnil)) (xc (.int 0)))) (xtest (xop opEq (xop opIx (xop opIx (xv 3) (xun unNeg (xc (.int 1)))) (xc (.int 2))) (xv 7)))) (xset 3 (xlst (xstar (xsl slB (xv 3) xnop (xpart (xun unNeg (xc (.int 1))))) (xcons (xtup (xcons (xop opIx (xop opIx (xv 3) (xun unNeg (xc (.int 1)))) (xc (.int 0))) (xcons (xv 5) (xcons (xv 7) xnil)))) xnil)))) (xset 3 (xlst (xstar (xv 3) (xcons (xtup (xcons (xv 4) (xcons (xv 5) (xcons (xv 7) xnil)))) xnil)))))))
def b_least_shares : MS := (xseq (xset 1 (xlc (xseqI (xv 0)) (tgt [(tgn 4), (tgn 5), (tgn 8)]) xtyes (xtup (xcons (xcall r_value_of (xcons (xv 4) xnil)) (xcons (xcall r_value_of (xcons (xv 5) xnil)) (xcons (xcall r_value_of (xcons (xv 8) xnil)) xnil)))) [4, 5, 8]))
  (xseq (xset 2 (xcall r_ascending (xcons (xlc2 (xseqI (xv 1)) (tgt [(tgn 4), (tgn 5), (tgn 8)]) xtyes (xseqI (xtup (xcons (xv 4) (xcons (xv 5) xnil)))) (tgn 9) xtyes (xv 9) [4, 5, 8, 9] [9]) xnil)))
  (xseq (xset 3 (xlst xnil))
  (xseq (xfor (xzipA (xcons (xv 2) (xcons (xsl slB (xv 2) (xpart (xc (.int 1))) xnop) xnil))) (tgt [(tgn 4), (tgn 5)]) b_least_shares_1)
  (xret (xcb cbTuple (xcons (xlc (xseqI (xv 3)) (tgn 12) (xtest (xop opNe (xop opIx (xv 12) (xc (.int 2))) (xc c_NOUGHT))) (xv 12) [12]) xnil)))))))
def r_least_shares : List D → Option R := runF 1 13 b_least_shares
def b_least_weights_1 : MS := (xapp 2 (xtup (xcons (xv 3) (xcons (xcall r_summed (xcons (xlc (xseqI (xv 1)) (tgt [(tgn 5), (tgn 4)]) (xtest (xop opEq (xv 5) (xv 3))) (xv 4) [5, 4]) xnil)) xnil))))
def b_least_weights : MS := (xseq (xset 1 (xlc (xseqI (xv 0)) (tgt [(tgn 3), (tgn 4)]) xtyes (xtup (xcons (xcall r_value_of (xcons (xv 3) xnil)) (xcons (xcall r_value_of (xcons (xv 4) xnil)) xnil))) [3, 4]))
  (xseq (xset 2 (xlst xnil))
  (xseq (xfor (xseqI (xcall r_ascending (xcons (xlc (xseqI (xv 1)) (tgt [(tgn 3), (tgn 4)]) xtyes (xv 3) [3, 4]) xnil))) (tgn 3) b_least_weights_1)
  (xret (xcb cbTuple (xcons (xlc (xseqI (xv 2)) (tgn 6) (xtest (xop opNe (xop opIx (xv 6) (xc (.int 1))) (xc c_NOUGHT))) (xv 6) [6]) xnil))))))
def r_least_weights : List D → Option R := runF 1 7 b_least_weights
def b_need_stretch : MS := (xseq (xifs (xtnot (xtru (xcall r_is_value (xcons (xv 0) xnil)))) xnever xnext)
  (xseq (xifs (xtor (xtnot (xtru (xcall r_is_value (xcons (xv 1) xnil)))) (xtnot (xtru (xcall r_is_less (xcons (xcall r_value_of (xcons (xv 0) xnil)) (xcons (xcall r_value_of (xcons (xv 1) xnil)) xnil)))))) xnever xnext)
  (xret (xtup (xcons (xcall r_value_of (xcons (xv 0) xnil)) (xcons (xcall r_value_of (xcons (xv 1) xnil)) xnil))))))
def r_need_stretch : List D → Option R := runF 2 2 b_need_stretch
def eb_need_stretch : MX := (eseq (eifs (xtnot (xtru (xcall r_is_value (xcons (xv 0) xnil)))) (eraise 0 (xc (.str "low"))) enone) (xifs (xtnot (xtru (xcall r_is_value (xcons (xv 0) xnil)))) xnever xnext)
  (eseq (eifs (xtor (xtnot (xtru (xcall r_is_value (xcons (xv 1) xnil)))) (xtnot (xtru (xcall r_is_less (xcons (xcall r_value_of (xcons (xv 0) xnil)) (xcons (xcall r_value_of (xcons (xv 1) xnil)) xnil)))))) (eraise 0 (xc (.str "high"))) enone) (xifs (xtor (xtnot (xtru (xcall r_is_value (xcons (xv 1) xnil)))) (xtnot (xtru (xcall r_is_less (xcons (xcall r_value_of (xcons (xv 0) xnil)) (xcons (xcall r_value_of (xcons (xv 1) xnil)) xnil)))))) xnever xnext)
  enone))
def e_need_stretch : List D → Option Ex := runE 2 2 eb_need_stretch
def b_Rule_init : MS := (xseq (xasgF 0 0 0 1 (xcall r_need_stretch (xcons (xv 1) (xcons (xv 2) xnil))))
  (xseq (xifs (xtor (xtnot (xtru (xcall r_is_sequence (xcons (xv 3) xnil)))) (xtnot (xtru (xcb cbAll (xcons (xlc (xseqI (xv 3)) (tgn 5) xtyes (xcall r_is_weight (xcons (xv 5) (xcons (xfldv 0 0 0) (xcons (xfldv 0 0 1) xnil)))) [5]) xnil))))) xnever xnext)
  (xseq (xifs (xtor (xtnot (xtru (xcall r_is_sequence (xcons (xv 4) xnil)))) (xtnot (xtru (xcb cbAll (xcons (xlc (xseqI (xv 4)) (tgn 5) xtyes (xcall r_is_share (xcons (xv 5) (xcons (xfldv 0 0 0) (xcons (xfldv 0 0 1) xnil)))) [5]) xnil))))) xnever xnext)
  (xseq (xsetf 0 0 2 (xcall r_least_weights (xcons (xv 3) xnil)))
  (xsetf 0 0 3 (xcall r_least_shares (xcons (xv 4) xnil)))))))
def r_Rule_init : Mob → List D → Option (R × Mob) := runB 5 6 b_Rule_init
def b_w_choose : MS := (xseq (xifs (xtest (xop opGt (xby 0 (xixv 0 (xc (.int 0))) (xop opIx (xv 0) (xc (.int 0)))) (xc (.int 0)))) (xseq (xset 2 (xop opMod (xcb cbInt (xcons (xby 0 (xixv 0 (xc (.int 0))) (xop opIx (xv 0) (xc (.int 0)))) xnil)) (xv 1)))
  (xseq (xput 0 (xop opFdiv (xby 0 (xixv 0 (xc (.int 0))) (xop opIx (xv 0) (xc (.int 0)))) (xv 1)) (xc (.int 0)))
  (xret (xmv 2)))) xnext)
  (xseq (xput 0 (xop opAddB (xby 0 (xixv 0 (xc (.int 2))) (xop opIx (xv 0) (xc (.int 2)))) (xc (.int 1))) (xc (.int 2)))
  (xseq (xset 3 (xop opMod (xcb cbInt (xcons (xop opMul (xop opAddB (xby 0 (xixv 0 (xc (.int 1))) (xop opIx (xv 0) (xc (.int 1)))) (xop opMul (xc (.int 104729)) (xby 0 (xixv 0 (xc (.int 2))) (xop opIx (xv 0) (xc (.int 2)))))) (xc (.int 69621))) xnil)) (xc (.int 2147483647))))
  (xseq (xput 0 (xop opAddB (xop opMod (xcb cbInt (xcons (xop opAddB (xop opMul (xv 3) (xc (.int 48271))) (xc (.int 30103))) xnil)) (xc (.int 2147483629))) (xc (.int 1))) (xc (.int 1)))
  (xret (xop opMod (xcb cbInt (xcons (xop opFdiv (xop opAddB (xop opMul (xv 3) (xc (.int 2147483647))) (xby 0 (xixv 0 (xc (.int 1))) (xop opIx (xv 0) (xc (.int 1))))) (xc (.int 8191))) xnil)) (xv 1)))))))
def r_w_choose : Mob → List D → Option (R × Mob) := runB 2 4 b_w_choose
def b_w_one_of : MS := (xret (xop opIx (xv 1) (xcallB r_w_choose 0 (xcons (xcb cbLen (xcons (xv 1) xnil)) xnil))))
def r_w_one_of : Mob → List D → Option (R × Mob) := runB 2 2 b_w_one_of
def r_w_anything_z : Mob → List D → Option (R × Mob) := fun _ _ => none
def b_w_anything_0 : MS := (xseq (xset 2 (xcallB r_w_choose 0 (xcons (xc (.int 9)) xnil)))
  (xseq (xifs (xtor (xtest (xop opLt (xv 1) (xc (.int 1)))) (xtest (xop opLt (xv 2) (xc (.int 5))))) (xseq (xset 3 (xlst (xcons (xc .non) (xcons (xc (.bl true)) (xcons (xc (.bl false)) (xcons (xc (.int 0)) (xcons (xc (.int 1)) (xcons (xun unNeg (xc (.int 3))) (xcons (xop opPow (xc (.int 10)) (xc (.int 17))) (xcons (xc (.str "")) (xcons (xc (.str "a")) (xcons (xc (.str "rule 0 1")) (xcons (xc (.str "1/2")) (xcons (xtup (xcons (xc (.int 1)) (xcons (xc (.int 2)) xnil))) (xcons (xtup (xcons (xc (.int 2)) (xcons (xc (.int 4)) xnil))) (xcons (xtup (xcons (xc (.int 1)) (xcons (xc (.int 0)) xnil))) (xcons (xtup xnil) (xcons (xlst xnil) xnil))))))))))))))))))
  (xret (xcallB r_w_one_of 0 (xcons (xv 3) xnil)))) xnext)
  (xseq (xset 4 (xlc (xrange1 (xcons (xcallB r_w_choose 0 (xcons (xc (.int 3)) xnil)) xnil)) (tgn 5) xtyes (xcallB r_w_anything_z 0 (xcons (xop opSub (xv 1) (xc (.int 1))) xnil)) [5]))
  (xret (xif (xtest (xop opLt (xv 2) (xc (.int 7)))) (xcb cbTuple (xcons (xv 4) xnil)) (xv 4))))))
def r_w_anything_0 : Mob → List D → Option (R × Mob) := runB 2 6 b_w_anything_0
def b_w_anything_1 : MS := (xseq (xset 2 (xcallB r_w_choose 0 (xcons (xc (.int 9)) xnil)))
  (xseq (xifs (xtor (xtest (xop opLt (xv 1) (xc (.int 1)))) (xtest (xop opLt (xv 2) (xc (.int 5))))) (xseq (xset 3 (xlst (xcons (xc .non) (xcons (xc (.bl true)) (xcons (xc (.bl false)) (xcons (xc (.int 0)) (xcons (xc (.int 1)) (xcons (xun unNeg (xc (.int 3))) (xcons (xop opPow (xc (.int 10)) (xc (.int 17))) (xcons (xc (.str "")) (xcons (xc (.str "a")) (xcons (xc (.str "rule 0 1")) (xcons (xc (.str "1/2")) (xcons (xtup (xcons (xc (.int 1)) (xcons (xc (.int 2)) xnil))) (xcons (xtup (xcons (xc (.int 2)) (xcons (xc (.int 4)) xnil))) (xcons (xtup (xcons (xc (.int 1)) (xcons (xc (.int 0)) xnil))) (xcons (xtup xnil) (xcons (xlst xnil) xnil))))))))))))))))))
  (xret (xcallB r_w_one_of 0 (xcons (xv 3) xnil)))) xnext)
  (xseq (xset 4 (xlc (xrange1 (xcons (xcallB r_w_choose 0 (xcons (xc (.int 3)) xnil)) xnil)) (tgn 5) xtyes (xcallB r_w_anything_0 0 (xcons (xop opSub (xv 1) (xc (.int 1))) xnil)) [5]))
  (xret (xif (xtest (xop opLt (xv 2) (xc (.int 7)))) (xcb cbTuple (xcons (xv 4) xnil)) (xv 4))))))
def r_w_anything_1 : Mob → List D → Option (R × Mob) := runB 2 6 b_w_anything_1
def b_w_anything_2 : MS := (xseq (xset 2 (xcallB r_w_choose 0 (xcons (xc (.int 9)) xnil)))
  (xseq (xifs (xtor (xtest (xop opLt (xv 1) (xc (.int 1)))) (xtest (xop opLt (xv 2) (xc (.int 5))))) (xseq (xset 3 (xlst (xcons (xc .non) (xcons (xc (.bl true)) (xcons (xc (.bl false)) (xcons (xc (.int 0)) (xcons (xc (.int 1)) (xcons (xun unNeg (xc (.int 3))) (xcons (xop opPow (xc (.int 10)) (xc (.int 17))) (xcons (xc (.str "")) (xcons (xc (.str "a")) (xcons (xc (.str "rule 0 1")) (xcons (xc (.str "1/2")) (xcons (xtup (xcons (xc (.int 1)) (xcons (xc (.int 2)) xnil))) (xcons (xtup (xcons (xc (.int 2)) (xcons (xc (.int 4)) xnil))) (xcons (xtup (xcons (xc (.int 1)) (xcons (xc (.int 0)) xnil))) (xcons (xtup xnil) (xcons (xlst xnil) xnil))))))))))))))))))
  (xret (xcallB r_w_one_of 0 (xcons (xv 3) xnil)))) xnext)
  (xseq (xset 4 (xlc (xrange1 (xcons (xcallB r_w_choose 0 (xcons (xc (.int 3)) xnil)) xnil)) (tgn 5) xtyes (xcallB r_w_anything_1 0 (xcons (xop opSub (xv 1) (xc (.int 1))) xnil)) [5]))
  (xret (xif (xtest (xop opLt (xv 2) (xc (.int 7)))) (xcb cbTuple (xcons (xv 4) xnil)) (xv 4))))))
def r_w_anything_2 : Mob → List D → Option (R × Mob) := runB 2 6 b_w_anything_2
def b_w_anything : MS := (xseq (xset 2 (xcallB r_w_choose 0 (xcons (xc (.int 9)) xnil)))
  (xseq (xifs (xtor (xtest (xop opLt (xv 1) (xc (.int 1)))) (xtest (xop opLt (xv 2) (xc (.int 5))))) (xseq (xset 3 (xlst (xcons (xc .non) (xcons (xc (.bl true)) (xcons (xc (.bl false)) (xcons (xc (.int 0)) (xcons (xc (.int 1)) (xcons (xun unNeg (xc (.int 3))) (xcons (xop opPow (xc (.int 10)) (xc (.int 17))) (xcons (xc (.str "")) (xcons (xc (.str "a")) (xcons (xc (.str "rule 0 1")) (xcons (xc (.str "1/2")) (xcons (xtup (xcons (xc (.int 1)) (xcons (xc (.int 2)) xnil))) (xcons (xtup (xcons (xc (.int 2)) (xcons (xc (.int 4)) xnil))) (xcons (xtup (xcons (xc (.int 1)) (xcons (xc (.int 0)) xnil))) (xcons (xtup xnil) (xcons (xlst xnil) xnil))))))))))))))))))
  (xret (xcallB r_w_one_of 0 (xcons (xv 3) xnil)))) xnext)
  (xseq (xset 4 (xlc (xrange1 (xcons (xcallB r_w_choose 0 (xcons (xc (.int 3)) xnil)) xnil)) (tgn 5) xtyes (xcallB r_w_anything_2 0 (xcons (xop opSub (xv 1) (xc (.int 1))) xnil)) [5]))
  (xret (xif (xtest (xop opLt (xv 2) (xc (.int 7)))) (xcb cbTuple (xcons (xv 4) xnil)) (xv 4))))))
def r_w_anything : Mob → List D → Option (R × Mob) := runB 2 6 b_w_anything
def b_w_less : MS := (xret (xop opLt (xop opMul (xop opIx (xv 0) (xc (.int 0))) (xop opIx (xv 1) (xc (.int 1)))) (xop opMul (xop opIx (xv 1) (xc (.int 0))) (xop opIx (xv 0) (xc (.int 1))))))
def r_w_less : List D → Option R := runF 2 2 b_w_less
def b_w_divisor_1 : MS := (ypar 0 1 (ycons (xv 1) (ycons (xop opMod (xcb cbInt (xcons (xv 0) xnil)) (xv 1)) ynil)))
def b_w_divisor : MS := (xseq (xwhile (fuelI 1) (xtest (xop opNe (xv 1) (xc (.int 0)))) b_w_divisor_1)
  (xret (xcb cbAbs (xcons (xv 0) xnil))))
def r_w_divisor : List D → Option R := runF 2 2 b_w_divisor
def b_w_pair : MS := (xseq (xifs (xtand (xtru (xcb (cbIsiU 0) (xcons (xv 0) (xcons (xc (.ty "int")) xnil)))) (xtnot (xtru (xcb (cbIsiU 0) (xcons (xv 0) (xcons (xc (.ty "bool")) xnil)))))) (xret (xtup (xcons (xv 0) (xcons (xc (.int 1)) xnil)))) xnext)
  (xseq (xifs (xtor (xtnot (xtru (xcb (cbIsiU 0) (xcons (xv 0) (xcons (xc (.ty "tuple")) xnil))))) (xtest (xop opNe (xcb cbLen (xcons (xv 0) xnil)) (xc (.int 2))))) (xret (xc .non)) xnext)
  (xseq (xifs (xtor (xtest (xop opNe (xlc (xseqI (xv 0)) (tgn 1) (xtor (xtnot (xtru (xcb (cbIsiU 0) (xcons (xv 1) (xcons (xc (.ty "int")) xnil))))) (xtru (xcb (cbIsiU 0) (xcons (xv 1) (xcons (xc (.ty "bool")) xnil))))) (xv 1) [1]) (xlst xnil))) (xtest (xop opLt (xop opIx (xv 0) (xc (.int 1))) (xc (.int 1))))) (xret (xc .non)) xnext)
  (xret (xif (xtest (xop opEq (xcall r_w_divisor (xcons (xop opIx (xv 0) (xc (.int 0))) (xcons (xop opIx (xv 0) (xc (.int 1))) xnil))) (xc (.int 1)))) (xv 0) (xc .non))))))
def r_w_pair : List D → Option R := runF 1 2 b_w_pair
def b_w_due_1 : MS := (xseq (xset 6 (xcall r_w_pair (xcons (xv 5) xnil)))
  (xseq (xifs (xtor (xtest (xop opIs (xv 6) (xc .non))) (xtor (xtru (xcall r_w_less (xcons (xv 6) (xcons (xv 1) xnil)))) (xtru (xcall r_w_less (xcons (xv 2) (xcons (xv 6) xnil)))))) (xret (xmv 4)) xnext)
  (xseq (xifs (xtand (xtest (xop opIsNot (xv 3) (xc .non))) (xtnot (xtru (xcall r_w_less (xcons (xv 3) (xcons (xv 6) xnil)))))) (xret (xmv 4)) xnext)
  (xset 3 (xv 6)))))
def b_w_due : MS := (xseq (xifs (xtor (xtnot (xtru (xcb cbIsiS (xcons (xv 0) (xcons (xtup (xcons (xc (.ty "list")) (xcons (xc (.ty "tuple")) xnil))) xnil))))) (xtest (xop opEq (xcb cbLen (xcons (xv 0) xnil)) (xc (.int 0))))) (xret (xc (.int 0))) xnext)
  (xseq (xset 3 (xc .non))
  (xseq (xfor (xenumA (xcons (xv 0) xnil)) (tgt [(tgn 4), (tgn 5)]) b_w_due_1)
  (xret (xc .non)))))
def r_w_due : List D → Option R := runF 3 7 b_w_due
def b_area : MS := (xseq (xasg (xcall r_need_stretch (xcons (xv 0) (xcons (xv 1) xnil))) (tgt [(tgn 2), (tgn 3)]))
  (xret (xmake 0 r_Rule_init ([.tup [], .tup []].drop 2) (xcons (xv 2) (xcons (xv 3) (xcons (xlst xnil) (xcons (xlst (xcons (xtup (xcons (xv 2) (xcons (xv 3) (xcons (xc (.int 1)) xnil)))) xnil)) xnil)))))))
def r_area : List D → Option R := runF 2 4 b_area
def b_need_points_1 : MS := (xseq (xifs (xtor (xtnot (xtru (xcall r_is_between (xcons (xv 5) (xcons (xv 0) (xcons (xv 1) xnil)))))) (xtand (xtest (xop opGt (xv 4) (xc (.int 0)))) (xtnot (xtru (xcall r_is_less (xcons (xby 3 (xixv 3 (xun unNeg (xc (.int 1)))) (xop opIx (xv 3) (xun unNeg (xc (.int 1))))) (xcons (xcall r_value_of (xcons (xv 5) xnil)) xnil))))))) xnever xnext)
  (xapp 3 (xcall r_value_of (xcons (xv 5) xnil))))
def b_need_points : MS := (xseq (xifs (xtor (xtnot (xtru (xcall r_is_sequence (xcons (xv 2) xnil)))) (xtest (xop opEq (xcb cbLen (xcons (xv 2) xnil)) (xc (.int 0))))) xnever xnext)
  (xseq (xset 3 (xlst xnil))
  (xseq (xfor (xenumA (xcons (xv 2) xnil)) (tgt [(tgn 4), (tgn 5)]) b_need_points_1)
  (xret (xmv 3)))))
def r_need_points : List D → Option R := runF 3 6 b_need_points
def eb_need_points : MX := (eseq (eifs (xtor (xtnot (xtru (xcall r_is_sequence (xcons (xv 2) xnil)))) (xtest (xop opEq (xcb cbLen (xcons (xv 2) xnil)) (xc (.int 0))))) (eraise 2 (xc (.int 0))) enone) (xifs (xtor (xtnot (xtru (xcall r_is_sequence (xcons (xv 2) xnil)))) (xtest (xop opEq (xcb cbLen (xcons (xv 2) xnil)) (xc (.int 0))))) xnever xnext)
  (eseq enone (xset 3 (xlst xnil))
  (eseq (efor (xenumA (xcons (xv 2) xnil)) (tgt [(tgn 4), (tgn 5)]) (xseq (xifs (xtor (xtnot (xtru (xcall r_is_between (xcons (xv 5) (xcons (xv 0) (xcons (xv 1) xnil)))))) (xtand (xtest (xop opGt (xv 4) (xc (.int 0)))) (xtnot (xtru (xcall r_is_less (xcons (xby 3 (xixv 3 (xun unNeg (xc (.int 1)))) (xop opIx (xv 3) (xun unNeg (xc (.int 1))))) (xcons (xcall r_value_of (xcons (xv 5) xnil)) xnil))))))) xnever xnext)
  (xapp 3 (xcall r_value_of (xcons (xv 5) xnil)))) (eseq (eifs (xtor (xtnot (xtru (xcall r_is_between (xcons (xv 5) (xcons (xv 0) (xcons (xv 1) xnil)))))) (xtand (xtest (xop opGt (xv 4) (xc (.int 0)))) (xtnot (xtru (xcall r_is_less (xcons (xby 3 (xixv 3 (xun unNeg (xc (.int 1)))) (xop opIx (xv 3) (xun unNeg (xc (.int 1))))) (xcons (xcall r_value_of (xcons (xv 5) xnil)) xnil))))))) (eraise 2 (xv 4)) enone) (xifs (xtor (xtnot (xtru (xcall r_is_between (xcons (xv 5) (xcons (xv 0) (xcons (xv 1) xnil)))))) (xtand (xtest (xop opGt (xv 4) (xc (.int 0)))) (xtnot (xtru (xcall r_is_less (xcons (xby 3 (xixv 3 (xun unNeg (xc (.int 1)))) (xop opIx (xv 3) (xun unNeg (xc (.int 1))))) (xcons (xcall r_value_of (xcons (xv 5) xnil)) xnil))))))) xnever xnext)
  enone)) (xfor (xenumA (xcons (xv 2) xnil)) (tgt [(tgn 4), (tgn 5)]) (xseq (xifs (xtor (xtnot (xtru (xcall r_is_between (xcons (xv 5) (xcons (xv 0) (xcons (xv 1) xnil)))))) (xtand (xtest (xop opGt (xv 4) (xc (.int 0)))) (xtnot (xtru (xcall r_is_less (xcons (xby 3 (xixv 3 (xun unNeg (xc (.int 1)))) (xop opIx (xv 3) (xun unNeg (xc (.int 1))))) (xcons (xcall r_value_of (xcons (xv 5) xnil)) xnil))))))) xnever xnext)
  (xapp 3 (xcall r_value_of (xcons (xv 5) xnil)))))
  enone)))
def e_need_points : List D → Option Ex := runE 3 6 eb_need_points
def b_less_by : MS := (xret (xcall r_lowest (xcons (xop opSub (xop opMul (xop opIx (xv 0) (xc (.int 0))) (xop opIx (xv 1) (xc (.int 1)))) (xop opMul (xop opIx (xv 1) (xc (.int 0))) (xop opIx (xv 0) (xc (.int 1))))) (xcons (xop opMul (xop opIx (xv 0) (xc (.int 1))) (xop opIx (xv 1) (xc (.int 1)))) xnil))))
def r_less_by : List D → Option R := runF 2 2 b_less_by
def b_multiplied : MS := (xret (xcall r_lowest (xcons (xop opMul (xop opIx (xv 0) (xc (.int 0))) (xop opIx (xv 1) (xc (.int 0)))) (xcons (xop opMul (xop opIx (xv 0) (xc (.int 1))) (xop opIx (xv 1) (xc (.int 1)))) xnil))))
def r_multiplied : List D → Option R := runF 2 2 b_multiplied
def b_quotient : MS := (xret (xcall r_lowest (xcons (xop opMul (xop opIx (xv 0) (xc (.int 0))) (xop opIx (xv 1) (xc (.int 1)))) (xcons (xop opMul (xop opIx (xv 0) (xc (.int 1))) (xop opIx (xv 1) (xc (.int 0)))) xnil))))
def r_quotient : List D → Option R := runF 2 2 b_quotient
def b_powers_of_1 : MS := (xseq (xset 4 (xcall r_less_by (xcons (xv 0) (xcons (xv 3) xnil))))
  (xseq (xset 5 (xlc (xseqI (xlst (xstar (xv 2) (xcons (xc c_NOUGHT) xnil)))) (tgn 6) xtyes (xcall r_multiplied (xcons (xv 6) (xcons (xv 3) xnil))) [6]))
  (xset 2 (xlc (xzipA (xcons (xlst (xcons (xc c_NOUGHT) (xstar (xv 2) xnil))) (xcons (xv 5) xnil))) (tgt [(tgn 7), (tgn 8)]) xtyes (xcall r_quotient (xcons (xcall r_less_by (xcons (xv 7) (xcons (xv 8) xnil))) (xcons (xv 4) xnil))) [7, 8]))))
def b_powers_of : MS := (xseq (xset 2 (xlst (xcons (xc c_ONE) xnil)))
  (xseq (xfor (xseqI (xv 1)) (tgn 3) b_powers_of_1)
  (xret (xmv 2))))
def r_powers_of : List D → Option R := runF 2 9 b_powers_of
def b_area_powers : MS := (xret (xlst (xcons (xc c_NOUGHT) (xstar (xlc (xenumA (xcons (xv 0) xnil)) (tgt [(tgn 1), (tgn 2)]) xtyes (xcall r_quotient (xcons (xv 2) (xcons (xtup (xcons (xop opAddB (xv 1) (xc (.int 1))) (xcons (xc (.int 1)) xnil))) xnil))) [1, 2]) xnil))))
def r_area_powers : List D → Option R := runF 1 3 b_area_powers
def b_value_at_1 : MS := (xset 2 (xcall r_added (xcons (xcall r_multiplied (xcons (xv 2) (xcons (xv 1) xnil))) (xcons (xv 3) xnil))))
def b_value_at : MS := (xseq (xset 2 (xc c_NOUGHT))
  (xseq (xfor (xseqI (xrev (xv 0) (xun unNeg (xc (.int 1))))) (tgn 3) b_value_at_1)
  (xret (xmv 2))))
def r_value_at : List D → Option R := runF 2 4 b_value_at
def b_told_1 : MS := (xapp 4 (xcall r_multiplied (xcons (xv 7) (xcons (xcall r_less_by (xcons (xcall r_value_at (xcons (xv 3) (xcons (xv 6) xnil))) (xcons (xcall r_value_at (xcons (xv 3) (xcons (xv 5) xnil))) xnil))) xnil))))
def b_told : MS := (xseq (xset 2 (xlc (xseqI (xv 1)) (tgn 8) xtyes (xcall r_value_of (xcons (xv 8) xnil)) [8]))
  (xseq (xset 3 (xcall r_area_powers (xcons (xv 2) xnil)))
  (xseq (xset 4 (xlc (xseqI (xfld 0 2 (xv 0))) (tgt [(tgn 9), (tgn 10)]) xtyes (xcall r_multiplied (xcons (xv 10) (xcons (xcall r_value_at (xcons (xv 2) (xcons (xv 9) xnil))) xnil))) [9, 10]))
  (xseq (xfor (xseqI (xfld 0 3 (xv 0))) (tgt [(tgn 5), (tgn 6), (tgn 7)]) b_told_1)
  (xret (xcall r_summed (xcons (xv 4) xnil)))))))
def r_told : List D → Option R := runF 2 11 b_told
def b_best_1 : MS := (xapp 7 (xtup (xcons (xv 8) (xcons (xcall r_told (xcons (xv 6) (xcons (xcall r_powers_of (xcons (xv 8) (xcons (xlc (xseqI (xv 5)) (tgn 9) (xtest (xop opNe (xv 9) (xv 8))) (xv 9) [9]) xnil))) xnil))) xnil))))
def b_best : MS := (xseq (xasg (xcall r_need_stretch (xcons (xv 0) (xcons (xv 1) xnil))) (tgt [(tgn 3), (tgn 4)]))
  (xseq (xset 5 (xcall r_need_points (xcons (xv 3) (xcons (xv 4) (xcons (xv 2) xnil)))))
  (xseq (ypar 6 7 (ycons (xcall r_area (xcons (xv 3) (xcons (xv 4) xnil))) (ycons (xlst xnil) ynil)))
  (xseq (xfor (xseqI (xv 5)) (tgn 8) b_best_1)
  (xret (xmake 0 r_Rule_init ([.tup [], .tup []].drop 1) (xcons (xv 3) (xcons (xv 4) (xcons (xv 7) xnil)))))))))
def r_best : List D → Option R := runF 3 10 b_best
def eb_best : MX := (eseq (ecall e_need_stretch enone (xcons (xv 0) (xcons (xv 1) xnil))) (xasg (xcall r_need_stretch (xcons (xv 0) (xcons (xv 1) xnil))) (tgt [(tgn 3), (tgn 4)]))
  (eseq (ecall e_need_points enone (xcons (xv 3) (xcons (xv 4) (xcons (xv 2) xnil)))) (xset 5 (xcall r_need_points (xcons (xv 3) (xcons (xv 4) (xcons (xv 2) xnil)))))
  enone))
def e_best : List D → Option Ex := runE 3 10 eb_best
def b_w_heard : MS := (xseq (xset 3 (xc .non))
  (xseq (xtry 4 3 [0, 2] (xdrop (xcall r_best (xcons (xv 0) (xcons (xv 1) (xcons (xv 2) xnil))))) (ecall e_best enone (xcons (xv 0) (xcons (xv 1) (xcons (xv 2) xnil)))) [(fun n => n == 0, fun x => (xef x)), (fun n => n == 2, fun x => (xif (xtand (xtb true) (xtnot (xtb false))) (xef x) (xc (.str "other"))))])
  (xret (xmv 3))))
def r_w_heard : List D → Option R := runF 3 5 b_w_heard
def b_w_lowest : MS := (xseq (xset 2 (xop opMul (xcall r_w_divisor (xcons (xv 0) (xcons (xv 1) xnil))) (xif (xtest (xop opGt (xv 1) (xc (.int 0)))) (xc (.int 1)) (xop opSub (xc (.int 0)) (xc (.int 1))))))
  (xret (xtup (xcons (xop opFdiv (xv 0) (xv 2)) (xcons (xop opFdiv (xv 1) (xv 2)) xnil)))))
def r_w_lowest : List D → Option R := runF 2 3 b_w_lowest
def b_w_minus : MS := (xret (xcall r_w_lowest (xcons (xop opSub (xop opMul (xop opIx (xv 0) (xc (.int 0))) (xop opIx (xv 1) (xc (.int 1)))) (xop opMul (xop opIx (xv 1) (xc (.int 0))) (xop opIx (xv 0) (xc (.int 1))))) (xcons (xop opMul (xop opIx (xv 0) (xc (.int 1))) (xop opIx (xv 1) (xc (.int 1)))) xnil))))
def r_w_minus : List D → Option R := runF 2 2 b_w_minus
def b_w_plus : MS := (xret (xcall r_w_lowest (xcons (xop opAddB (xop opMul (xop opIx (xv 0) (xc (.int 0))) (xop opIx (xv 1) (xc (.int 1)))) (xop opMul (xop opIx (xv 1) (xc (.int 0))) (xop opIx (xv 0) (xc (.int 1))))) (xcons (xop opMul (xop opIx (xv 0) (xc (.int 1))) (xop opIx (xv 1) (xc (.int 1)))) xnil))))
def r_w_plus : List D → Option R := runF 2 2 b_w_plus
def b_w_times : MS := (xret (xcall r_w_lowest (xcons (xop opMul (xop opIx (xv 0) (xc (.int 0))) (xop opIx (xv 1) (xc (.int 0)))) (xcons (xop opMul (xop opIx (xv 0) (xc (.int 1))) (xop opIx (xv 1) (xc (.int 1)))) xnil))))
def r_w_times : List D → Option R := runF 2 2 b_w_times
def b_w_point : MS := (xseq (xset 3 (xcallB r_w_one_of 0 (xcons (xlst (xcons (xtup (xcons (xc (.int 0)) (xcons (xc (.int 1)) xnil))) (xcons (xtup (xcons (xc (.int 1)) (xcons (xc (.int 1)) xnil))) (xcons (xtup (xcons (xc (.int 1)) (xcons (xc (.int 2)) xnil))) (xcons (xtup (xcons (xc (.int 1)) (xcons (xc (.int 3)) xnil))) (xcons (xtup (xcons (xc (.int 2)) (xcons (xc (.int 3)) xnil))) (xcons (xtup (xcons (xc (.int 1)) (xcons (xc (.int 4)) xnil))) (xcons (xtup (xcons (xc (.int 3)) (xcons (xc (.int 4)) xnil))) xnil)))))))) xnil)))
  (xret (xcall r_w_plus (xcons (xv 1) (xcons (xcall r_w_times (xcons (xv 3) (xcons (xcall r_w_minus (xcons (xv 2) (xcons (xv 1) xnil))) xnil))) xnil)))))
def r_w_point : Mob → List D → Option (R × Mob) := runB 3 4 b_w_point
def b_w_rising_1 : MS := (xseq (xset 3 (xlc (xseqI (xv 1)) (tgn 4) (xtru (xcall r_w_less (xcons (xv 4) (xcons (xv 2) xnil)))) (xv 4) [4]))
  (xifs (xtest (xop (opInB true) (xv 2) (xv 1))) (xset 1 (xop opAddB (xop opAddB (xv 3) (xlst (xcons (xv 2) xnil))) (xsl slB (xv 1) (xpart (xcb cbLen (xcons (xv 3) xnil))) xnop))) xnext))
def b_w_rising : MS := (xseq (xset 1 (xlst xnil))
  (xseq (xfor (xseqI (xv 0)) (tgn 2) b_w_rising_1)
  (xret (xmv 1))))
def r_w_rising : List D → Option R := runF 1 5 b_w_rising
def b_w_points : MS := (xseq (xset 4 (xlc (xrange1 (xcons (xop opAddB (xc (.int 1)) (xcallB r_w_choose 0 (xcons (xv 3) xnil))) xnil)) (tgn 5) xtyes (xcallB r_w_point 0 (xcons (xv 1) (xcons (xv 2) xnil))) [5]))
  (xret (xcall r_w_rising (xcons (xv 4) xnil))))
def r_w_points : Mob → List D → Option (R × Mob) := runB 4 6 b_w_points
def b_w_seed_1 : MS := (xset 3 (xop opMod (xcb cbInt (xcons (xop opAddB (xop opAddB (xop opMul (xv 3) (xc (.int 48271))) (xop opMod (xcb cbInt (xcons (xcb cbAbs (xcons (xv 4) xnil)) xnil)) (xc (.int 2147483629)))) (xc (.int 19))) xnil)) (xc (.int 2147483647))))
def b_w_seed : MS := (xseq (xset 2 (xif (xtest (xop opLt (xv 1) (xcb cbLen (xcons (xv 0) xnil)))) (xcb cbAbs (xcons (xcb cbInt (xcons (xop opIx (xv 0) (xv 1)) xnil)) xnil)) (xc (.int 0))))
  (xseq (xset 3 (xop opAddB (xc (.int 50331653)) (xop opMul (xc (.int 7919)) (xv 1))))
  (xseq (xfor (xseqI (xsl slB (xv 0) xnop (xpart (xc (.int 56))))) (tgn 4) b_w_seed_1)
  (xret (xlst (xcons (xif (xtest (xop opGe (xv 2) (xop opPow (xc (.int 10)) (xc (.int 18))))) (xv 2) (xc (.int 0))) (xcons (xv 3) (xcons (xc (.int 0)) xnil))))))))
def r_w_seed : List D → Option R := runF 2 5 b_w_seed
def b_w_fraction : MS := (xret (xcall r_w_lowest (xcons (xop opSub (xcallB r_w_choose 0 (xcons (xop opAddB (xop opMul (xc (.int 2)) (xv 1)) (xc (.int 1))) xnil)) (xv 1)) (xcons (xop opAddB (xc (.int 1)) (xcallB r_w_choose 0 (xcons (xv 2) xnil))) xnil))))
def r_w_fraction : Mob → List D → Option (R × Mob) := runB 3 3 b_w_fraction
def b_w_stretch : MS := (xseq (xset 1 (xcallB r_w_fraction 0 (xcons (xc (.int 3)) (xcons (xc (.int 3)) xnil))))
  (xret (xtup (xcons (xv 1) (xcons (xcall r_w_plus (xcons (xv 1) (xcons (xcallB r_w_one_of 0 (xcons (xlst (xcons (xtup (xcons (xc (.int 1)) (xcons (xc (.int 1)) xnil))) (xcons (xtup (xcons (xc (.int 1)) (xcons (xc (.int 1)) xnil))) (xcons (xtup (xcons (xc (.int 2)) (xcons (xc (.int 1)) xnil))) (xcons (xtup (xcons (xc (.int 1)) (xcons (xc (.int 2)) xnil))) (xcons (xtup (xcons (xc (.int 3)) (xcons (xc (.int 2)) xnil))) (xcons (xtup (xcons (xc (.int 4)) (xcons (xc (.int 3)) xnil))) xnil))))))) xnil)) xnil))) xnil)))))
def r_w_stretch : Mob → List D → Option (R × Mob) := runB 1 2 b_w_stretch
def b_law_1 : MS := (xifs (xtest (xop opNe (xcb cbRepr (xcons (xcall r_w_heard (xcons (xv 4) (xcons (xv 5) (xcons (xv 11) xnil)))) xnil)) (xcb cbRepr (xcons (xcall r_w_due (xcons (xv 11) (xcons (xv 4) (xcons (xv 5) xnil)))) xnil)))) (xret (xc (.bl false))) xnext)
def b_law_2 : MS := (xseq (xasg (xcallB r_w_stretch 2 xnil) (tgt [(tgn 4), (tgn 5)]))
  (xseq (xset 6 (xcallB r_w_points 2 (xcons (xv 4) (xcons (xv 5) (xcons (xc (.int 4)) xnil)))))
  (xseq (xifs (xtest (xop opIsNot (xcall r_w_heard (xcons (xv 4) (xcons (xv 5) (xcons (xv 6) xnil)))) (xc .non))) (xret (xc (.bl false))) xnext)
  (xseq (xset 7 (xcallB r_w_choose 2 (xcons (xop opAddB (xcb cbLen (xcons (xv 6) xnil)) (xc (.int 1))) xnil)))
  (xseq (xset 8 (xlst (xcons (xc .non) (xcons (xc (.bl true)) (xcons (xc (.str "0")) (xcons (xtup (xcons (xc (.int 2)) (xcons (xc (.int 4)) xnil))) (xcons (xtup (xcons (xc (.int 1)) (xcons (xc (.int 0)) xnil))) (xcons (xlst (xcons (xc (.int 1)) (xcons (xc (.int 2)) xnil))) (xcons (xtup (xcons (xc (.int 1)) (xcons (xun unNeg (xc (.int 1))) xnil))) (xcons (xv 4) (xcons (xv 5) xnil)))))))))))
  (xseq (xset 8 (xop opAddB (xv 8) (xlst (xcons (xcall r_w_plus (xcons (xv 5) (xcons (xtup (xcons (xc (.int 1)) (xcons (xc (.int 7)) xnil))) xnil))) (xcons (xcall r_w_minus (xcons (xv 4) (xcons (xtup (xcons (xc (.int 1)) (xcons (xc (.int 7)) xnil))) xnil))) xnil)))))
  (xseq (xset 8 (xop opAddB (xv 8) (xlst (xcons (xcallB r_w_point 2 (xcons (xv 4) (xcons (xv 5) xnil))) (xcons (xcallB r_w_anything 2 (xcons (xc (.int 3)) xnil)) (xcons (xtup (xcons (xv 4) (xcons (xc (.int 1)) xnil))) (xcons (xmake 0 r_Rule_init ([.tup [], .tup []].drop 0) (xcons (xc (.int 0)) (xcons (xc (.int 1)) xnil))) xnil)))))))
  (xseq (xset 9 (xop opAddB (xop opAddB (xsl slB (xv 6) xnop (xpart (xv 7))) (xlst (xcons (xcallB r_w_one_of 2 (xcons (xv 8) xnil)) xnil))) (xsl slB (xv 6) (xpart (xv 7)) xnop)))
  (xseq (xifs (xtest (xop opNe (xcb cbRepr (xcons (xcall r_w_heard (xcons (xv 4) (xcons (xv 5) (xcons (xv 9) xnil)))) xnil)) (xcb cbRepr (xcons (xcall r_w_due (xcons (xv 9) (xcons (xv 4) (xcons (xv 5) xnil)))) xnil)))) (xret (xc (.bl false))) xnext)
  (xseq (xset 10 (xrevA (xv 6) (xop opSub (xc (.int 0)) (xc (.int 1)))))
  (xseq (xifs (xtest (xop opNe (xcall r_w_heard (xcons (xv 4) (xcons (xv 5) (xcons (xcb cbTuple (xcons (xv 10) xnil)) xnil)))) (xcall r_w_due (xcons (xv 10) (xcons (xv 4) (xcons (xv 5) xnil)))))) (xret (xc (.bl false))) xnext)
  (xseq (xifs (xtest (xop opNe (xcall r_w_heard (xcons (xv 4) (xcons (xv 5) (xcons (xop opAddB (xv 6) (xsl slB (xv 6) (xpart (xun unNeg (xc (.int 1)))) xnop)) xnil)))) (xcb cbLen (xcons (xv 6) xnil)))) (xret (xc (.bl false))) xnext)
  (xseq (xfor (xseqI (xtup (xcons (xc .non) (xcons (xc (.int 3)) (xcons (xc (.str "")) (xcons (xc (.str "0")) (xcons (xlst xnil) (xcons (xtup xnil) (xcons (xc (.bl true)) (xcons (xv 4) xnil)))))))))) (tgn 11) b_law_1)
  (xseq (xifs (xtor (xtest (xop opNe (xcall r_w_heard (xcons (xv 5) (xcons (xv 4) (xcons (xlst (xcons (xc .non) xnil)) xnil)))) (xc (.str "high")))) (xtest (xop opNe (xcall r_w_heard (xcons (xc .non) (xcons (xv 5) (xcons (xlst xnil) xnil)))) (xc (.str "low"))))) (xret (xc (.bl false))) xnext)
  (xifs (xtest (xop opNe (xcall r_w_heard (xcons (xv 4) (xcons (xv 4) (xcons (xv 6) xnil)))) (xc (.str "high")))) (xret (xc (.bl false))) xnext)))))))))))))))
def b_law_3 : MS := (xseq (xset 2 (xcall r_w_seed (xcons (xv 0) (xcons (xv 1) xnil))))
  (xfor (xrange1 (xcons (xc (.int 6)) xnil)) (tgn 3) b_law_2))
def b_law : MS := (xseq (xfor (xrange1 (xcons (xcb cbMax2 (xcons (xc (.int 2)) (xcons (xcb cbMin2 (xcons (xc (.int 4)) (xcons (xcb cbLen (xcons (xv 0) xnil)) xnil))) xnil))) xnil)) (tgn 1) b_law_3)
  (xret (xc (.bl true))))
def r_law : List D → Option R := runF 1 12 b_law
end Bk
namespace Bk
open PySem L2 PyProof.Rows
def top (i : Nat) : Stmt := PySem.Challenge.pw_bendkinds_k46_points_refused.main.body.getD i (.Pass ⟨0, 0, 0, 0⟩)
abbrev s_is_sequence : Stmt := top 13
abbrev s_is_less : Stmt := top 23
abbrev s_is_integer : Stmt := top 12
abbrev s_divisor : Stmt := top 14
abbrev s_is_pair : Stmt := top 16
abbrev s_is_value : Stmt := top 17
abbrev s_value_of : Stmt := top 18
abbrev s_is_between : Stmt := top 31
abbrev s_is_share : Stmt := top 33
abbrev s_is_weight : Stmt := top 32
abbrev s_ascending : Stmt := top 25
abbrev s_lowest : Stmt := top 15
abbrev s_added : Stmt := top 19
abbrev s_summed : Stmt := top 24
abbrev s_least_shares : Stmt := top 35
abbrev s_least_weights : Stmt := top 34
abbrev s_need_stretch : Stmt := top 30
abbrev s_Rule_init : Stmt := inClass (top 36) 0
abbrev s_w_choose : Stmt := top 48
abbrev s_w_one_of : Stmt := top 49
abbrev s_w_anything : Stmt := top 50
abbrev s_w_less : Stmt := top 56
abbrev s_w_divisor : Stmt := top 51
abbrev s_w_pair : Stmt := top 63
abbrev s_w_due : Stmt := top 64
abbrev s_area : Stmt := top 38
abbrev s_need_points : Stmt := top 43
abbrev s_less_by : Stmt := top 20
abbrev s_multiplied : Stmt := top 21
abbrev s_quotient : Stmt := top 22
abbrev s_powers_of : Stmt := top 44
abbrev s_area_powers : Stmt := top 40
abbrev s_value_at : Stmt := top 39
abbrev s_told : Stmt := top 41
abbrev s_best : Stmt := top 45
abbrev s_w_heard : Stmt := top 62
abbrev s_w_lowest : Stmt := top 52
abbrev s_w_minus : Stmt := top 54
abbrev s_w_plus : Stmt := top 53
abbrev s_w_times : Stmt := top 55
abbrev s_w_point : Stmt := top 60
abbrev s_w_rising : Stmt := top 57
abbrev s_w_points : Stmt := top 61
abbrev s_w_seed : Stmt := top 47
abbrev s_w_fraction : Stmt := top 58
abbrev s_w_stretch : Stmt := top 59
abbrev s_law : Stmt := top 65
abbrev nm_is_sequence : List PySem.Str := ["value"]
abbrev nm_is_less : List PySem.Str := ["one", "other"]
abbrev nm_is_integer : List PySem.Str := ["value"]
abbrev nm_divisor : List PySem.Str := ["one", "other"]
abbrev nm_is_pair : List PySem.Str := ["value", "one"]
abbrev nm_is_value : List PySem.Str := ["value"]
abbrev nm_value_of : List PySem.Str := ["value"]
abbrev nm_is_between : List PySem.Str := ["value", "low", "high"]
abbrev nm_is_share : List PySem.Str := ["value", "low", "high"]
abbrev nm_is_weight : List PySem.Str := ["value", "low", "high"]
abbrev nm_ascending : List PySem.Str := ["values", "common_here", "top", "low", "scaled_ones", "one", "at", "place"]
abbrev nm_lowest : List PySem.Str := ["top", "low", "common"]
abbrev nm_added : List PySem.Str := ["one", "other"]
abbrev nm_summed : List PySem.Str := ["values", "found", "one"]
abbrev nm_least_shares : List PySem.Str := ["shares", "parts", "cuts", "found", "start", "end", "some", "here", "share", "one", "first", "last", "part"]
abbrev nm_least_weights : List PySem.Str := ["weights", "pairs", "found", "point", "weight", "place", "pair"]
abbrev nm_need_stretch : List PySem.Str := ["low", "high"]
abbrev nm_Rule_init : List PySem.Str := ["self", "low", "high", "weights", "shares", "one"]
abbrev nm_w_choose : List PySem.Str := ["_law_box", "_law_many", "_law_digit", "_law_raw"]
abbrev nm_w_one_of : List PySem.Str := ["_law_box", "_law_some"]
abbrev nm_w_anything : List PySem.Str := ["_law_box", "_law_deep", "_law_form", "_law_some", "_law_inner", "_law_turn"]
abbrev nm_w_less : List PySem.Str := ["_law_one", "_law_other"]
abbrev nm_w_divisor : List PySem.Str := ["_law_one", "_law_other"]
abbrev nm_w_pair : List PySem.Str := ["_law_value", "_law_one"]
abbrev nm_w_due : List PySem.Str := ["_law_points_here", "_law_low", "_law_high", "_law_last", "_law_at", "_law_point_here", "_law_pair_here"]
abbrev nm_area : List PySem.Str := ["low", "high", "first", "last"]
abbrev nm_need_points : List PySem.Str := ["low", "high", "points", "found", "at", "point"]
abbrev nm_less_by : List PySem.Str := ["one", "other"]
abbrev nm_multiplied : List PySem.Str := ["one", "other"]
abbrev nm_quotient : List PySem.Str := ["one", "other"]
abbrev nm_powers_of : List PySem.Str := ["point", "others", "found", "other", "wide", "lower", "one", "high", "low"]
abbrev nm_area_powers : List PySem.Str := ["powers", "at", "one"]
abbrev nm_value_at : List PySem.Str := ["powers", "place", "found", "one"]
abbrev nm_told : List PySem.Str := ["rule", "powers", "some", "whole", "parts", "start", "end", "share", "one", "point", "weight"]
abbrev nm_best : List PySem.Str := ["low", "high", "points", "first", "last", "some", "whole", "weights", "point", "other"]
abbrev nm_w_heard : List PySem.Str := ["_law_low", "_law_high", "_law_points_here", "_law_found", "e"]
abbrev nm_w_lowest : List PySem.Str := ["_law_top", "_law_low", "_law_by"]
abbrev nm_w_minus : List PySem.Str := ["_law_one", "_law_other"]
abbrev nm_w_plus : List PySem.Str := ["_law_one", "_law_other"]
abbrev nm_w_times : List PySem.Str := ["_law_one", "_law_other"]
abbrev nm_w_point : List PySem.Str := ["_law_box", "_law_low", "_law_high", "_law_part"]
abbrev nm_w_rising : List PySem.Str := ["_law_values", "_law_found", "_law_one", "_law_ahead", "_law_other"]
abbrev nm_w_points : List PySem.Str := ["_law_box", "_law_low", "_law_high", "_law_many", "_law_found", "_law_turn"]
abbrev nm_w_seed : List PySem.Str := ["_law_script", "_law_k", "_law_cell", "_law_stirred", "_law_one"]
abbrev nm_w_fraction : List PySem.Str := ["_law_box", "_law_far", "_law_wide"]
abbrev nm_w_stretch : List PySem.Str := ["_law_box", "_law_low"]
abbrev nm_law : List PySem.Str := ["_law_script", "_law_k", "_law_box", "_law_turn", "_law_low", "_law_high", "_law_points_here", "_law_at", "_law_odd", "_law_bent", "_law_back", "_law_thing"]
abbrev pm_is_sequence : List PySem.Str := ["value"]
abbrev pm_is_less : List PySem.Str := ["one", "other"]
abbrev pm_is_integer : List PySem.Str := ["value"]
abbrev pm_divisor : List PySem.Str := ["one", "other"]
abbrev pm_is_pair : List PySem.Str := ["value"]
abbrev pm_is_value : List PySem.Str := ["value"]
abbrev pm_value_of : List PySem.Str := ["value"]
abbrev pm_is_between : List PySem.Str := ["value", "low", "high"]
abbrev pm_is_share : List PySem.Str := ["value", "low", "high"]
abbrev pm_is_weight : List PySem.Str := ["value", "low", "high"]
abbrev pm_ascending : List PySem.Str := ["values"]
abbrev pm_lowest : List PySem.Str := ["top", "low"]
abbrev pm_added : List PySem.Str := ["one", "other"]
abbrev pm_summed : List PySem.Str := ["values"]
abbrev pm_least_shares : List PySem.Str := ["shares"]
abbrev pm_least_weights : List PySem.Str := ["weights"]
abbrev pm_need_stretch : List PySem.Str := ["low", "high"]
abbrev pm_Rule_init : List PySem.Str := ["self", "low", "high", "weights", "shares"]
abbrev pm_w_choose : List PySem.Str := ["_law_box", "_law_many"]
abbrev pm_w_one_of : List PySem.Str := ["_law_box", "_law_some"]
abbrev pm_w_anything : List PySem.Str := ["_law_box", "_law_deep"]
abbrev pm_w_less : List PySem.Str := ["_law_one", "_law_other"]
abbrev pm_w_divisor : List PySem.Str := ["_law_one", "_law_other"]
abbrev pm_w_pair : List PySem.Str := ["_law_value"]
abbrev pm_w_due : List PySem.Str := ["_law_points_here", "_law_low", "_law_high"]
abbrev pm_area : List PySem.Str := ["low", "high"]
abbrev pm_need_points : List PySem.Str := ["low", "high", "points"]
abbrev pm_less_by : List PySem.Str := ["one", "other"]
abbrev pm_multiplied : List PySem.Str := ["one", "other"]
abbrev pm_quotient : List PySem.Str := ["one", "other"]
abbrev pm_powers_of : List PySem.Str := ["point", "others"]
abbrev pm_area_powers : List PySem.Str := ["powers"]
abbrev pm_value_at : List PySem.Str := ["powers", "place"]
abbrev pm_told : List PySem.Str := ["rule", "powers"]
abbrev pm_best : List PySem.Str := ["low", "high", "points"]
abbrev pm_w_heard : List PySem.Str := ["_law_low", "_law_high", "_law_points_here"]
abbrev pm_w_lowest : List PySem.Str := ["_law_top", "_law_low"]
abbrev pm_w_minus : List PySem.Str := ["_law_one", "_law_other"]
abbrev pm_w_plus : List PySem.Str := ["_law_one", "_law_other"]
abbrev pm_w_times : List PySem.Str := ["_law_one", "_law_other"]
abbrev pm_w_point : List PySem.Str := ["_law_box", "_law_low", "_law_high"]
abbrev pm_w_rising : List PySem.Str := ["_law_values"]
abbrev pm_w_points : List PySem.Str := ["_law_box", "_law_low", "_law_high", "_law_many"]
abbrev pm_w_seed : List PySem.Str := ["_law_script", "_law_k"]
abbrev pm_w_fraction : List PySem.Str := ["_law_box", "_law_far", "_law_wide"]
abbrev pm_w_stretch : List PySem.Str := ["_law_box"]
abbrev pm_law : List PySem.Str := ["_law_script"]
abbrev s_X0 : Stmt := inClass (top 3) 0
theorem uB_X0 : ∃ p1 p2 q0 q1 q2 q3 q4 q5 a1 a2 a3 a4 m j, defArgs s_X0 = PySem.UnvX.iA "word" p1 p2 ∧ defBody s_X0 = PySem.UnvX.iB "word" q0 q1 q2 q3 q4 q5 a1 a2 a3 a4 m j ∧ (q2.endLine == q4.line) = true := ⟨_, _, _, _, _, _, _, _, _, _, _, _, _, _, rfl, rfl, rfl⟩
theorem uS_X0 : PySem.UnlX.Sc (defScope s_X0) := ⟨rfl, rfl, rfl, by decide +kernel, rfl, rfl, rfl⟩
abbrev s_X2 : Stmt := inClass (top 5) 0
theorem uB_X2 : ∃ p1 p2 q0 q1 q2 q3 q4 q5 a1 a2 a3 a4 m j, defArgs s_X2 = PySem.UnvX.iA "at" p1 p2 ∧ defBody s_X2 = PySem.UnvX.iB "at" q0 q1 q2 q3 q4 q5 a1 a2 a3 a4 m j ∧ (q2.endLine == q4.line) = true := ⟨_, _, _, _, _, _, _, _, _, _, _, _, _, _, rfl, rfl, rfl⟩
theorem uS_X2 : PySem.UnlX.Sc (defScope s_X2) := ⟨rfl, rfl, rfl, by decide +kernel, rfl, rfl, rfl⟩
structure Txt (K : PySem.W.Frag) (mg : PySem.Str → Option Value) where
  Rule : ClT K mg 0
  is_sequence : FnT K mg "is_sequence" s_is_sequence
  is_less : FnT K mg "is_less" s_is_less
  is_integer : FnT K mg "is_integer" s_is_integer
  divisor : FnT K mg "divisor" s_divisor
  is_pair : FnT K mg "is_pair" s_is_pair
  is_value : FnT K mg "is_value" s_is_value
  value_of : FnT K mg "value_of" s_value_of
  is_between : FnT K mg "is_between" s_is_between
  is_share : FnT K mg "is_share" s_is_share
  is_weight : FnT K mg "is_weight" s_is_weight
  ascending : FnT K mg "ascending" s_ascending
  lowest : FnT K mg "lowest" s_lowest
  added : FnT K mg "added" s_added
  summed : FnT K mg "summed" s_summed
  least_shares : FnT K mg "least_shares" s_least_shares
  least_weights : FnT K mg "least_weights" s_least_weights
  need_stretch : FnT K mg "need_stretch" s_need_stretch
  Rule_init : FnMD K Rule.C "__init__" "Rule.__init__" s_Rule_init [.tup [], .tup []]
  mk_Rule : Mk K Rule.C Rule_init.f
  w_choose : FnT K mg "_law_choose" s_w_choose
  w_one_of : FnT K mg "_law_one_of" s_w_one_of
  w_anything : FnT K mg "_law_anything" s_w_anything
  w_less : FnT K mg "_law_less" s_w_less
  w_divisor : FnT K mg "_law_divisor" s_w_divisor
  w_pair : FnT K mg "_law_pair" s_w_pair
  w_due : FnT K mg "_law_due" s_w_due
  area : FnT K mg "area" s_area
  need_points : FnT K mg "need_points" s_need_points
  less_by : FnT K mg "less_by" s_less_by
  multiplied : FnT K mg "multiplied" s_multiplied
  quotient : FnT K mg "quotient" s_quotient
  powers_of : FnT K mg "powers_of" s_powers_of
  area_powers : FnT K mg "area_powers" s_area_powers
  value_at : FnT K mg "value_at" s_value_at
  told : FnT K mg "told" s_told
  best : FnT K mg "best" s_best
  w_heard : FnT K mg "_law_heard" s_w_heard
  w_lowest : FnT K mg "_law_lowest" s_w_lowest
  w_minus : FnT K mg "_law_minus" s_w_minus
  w_plus : FnT K mg "_law_plus" s_w_plus
  w_times : FnT K mg "_law_times" s_w_times
  w_point : FnT K mg "_law_point" s_w_point
  w_rising : FnT K mg "_law_rising" s_w_rising
  w_points : FnT K mg "_law_points" s_w_points
  w_seed : FnT K mg "_law_seed" s_w_seed
  w_fraction : FnT K mg "_law_fraction" s_w_fraction
  w_stretch : FnT K mg "_law_stretch" s_w_stretch
  law : FnT K mg "law" s_law
  iu_Rule : IsU K Rule.C
  NOUGHT : CoT K mg "NOUGHT" c_NOUGHT
  ONE : CoT K mg "ONE" c_ONE
  abs : mg "abs" = none
  all : mg "all" = none
  bool : mg "bool" = none
  enumerate : mg "enumerate" = none
  int : mg "int" = none
  isinstance : mg "isinstance" = none
  len : mg "len" = none
  list : mg "list" = none
  max : mg "max" = none
  min : mg "min" = none
  range : mg "range" = none
  repr : mg "repr" = none
  sorted : mg "sorted" = none
  tuple : mg "tuple" = none
  zip : mg "zip" = none
  X0 : XT K mg 0
  X2 : XT K mg 2
  XB_BendError : XB mg "BendError"
  XB_InvalidRule : XB mg "InvalidRule"
  ki_2_BendError : PySem.W.kitOne K (.ref X2.C) (.ref XB_BendError.C) = some true
  ki_2_InvalidRule : PySem.W.kitOne K (.ref X2.C) (.ref XB_InvalidRule.C) = some false
  ex_0_0 : PySem.W.exmOne K (.ref X0.C) (.ref X0.C) = some true
  ex_0_2 : PySem.W.exmOne K (.ref X0.C) (.ref X2.C) = some false
  ex_2_0 : PySem.W.exmOne K (.ref X2.C) (.ref X0.C) = some false
  ex_2_2 : PySem.W.exmOne K (.ref X2.C) (.ref X2.C) = some true
  su : mg "super" = none
structure HPs {K : PySem.W.Frag} {mg : PySem.Str → Option Value} (T : Txt K mg) (P : Program) : Prop where
  h0 : PFile P T.X0.fl
  h2 : PFile P T.X2.fl
section
variable {P : Program} {w : World} {K : PySem.W.Frag} {mg : PySem.Str → Option Value} {base : Heap}
theorem sc_is_sequence : FnScope nm_is_sequence pm_is_sequence (defScope s_is_sequence) := ⟨rfl, rfl, rfl, by decide +kernel, rfl, by decide +kernel, by decide +kernel⟩
theorem len1 {α : Type} {us : List α} (hl : us.length = 1) : ∃ a0, us = [a0] := match us, hl with | [a0], _ => ⟨a0, rfl⟩
theorem len2 {α : Type} {us : List α} (hl : us.length = 2) : ∃ a0 a1, us = [a0, a1] := match us, hl with | [a0, a1], _ => ⟨a0, a1, rfl⟩
theorem len3 {α : Type} {us : List α} (hl : us.length = 3) : ∃ a0 a1 a2, us = [a0, a1, a2] := match us, hl with | [a0, a1, a2], _ => ⟨a0, a1, a2, rfl⟩
theorem len4 {α : Type} {us : List α} (hl : us.length = 4) : ∃ a0 a1 a2 a3, us = [a0, a1, a2, a3] := match us, hl with | [a0, a1, a2, a3], _ => ⟨a0, a1, a2, a3, rfl⟩
theorem bi_is_sequence (T : Txt K mg) : Binds K T.is_sequence.fd pm_is_sequence [] := T.is_sequence.F.binds fun _ _ _ _ _ _ us hl => by obtain ⟨_, rfl⟩ := len1 hl; rfl
theorem ok_is_sequence (T : Txt K mg) : FnOk P w K mg base CX0 1 T.is_sequence.f T.is_sequence.fd pm_is_sequence (spF K r_is_sequence) := by
  have nd := sc_is_sequence.nd
  refine data_F T.is_sequence.F sc_is_sequence fun cdv A outer s H E hr => ?_
  refine ⟨_, (pss_one (ps_ret (pe_callB (kcr_isiS (K := K) rfl) (by rfl) T.isinstance (by decide +kernel) (pa_cons (pv 0) (pa_cons (pe_tup (pa_cons (pe_bltn (v := .ty "list") (u := .type "list") (by rfl) T.list (by decide +kernel) rfl) (pa_cons (pe_bltn (v := .ty "tuple") (u := .type "tuple") (by rfl) T.tuple (by decide +kernel) rfl) pa_nil))) pa_nil))))), ?_⟩
  exact ((sk_ret (gk_cb cd_isiS (ak_cons gk_var (ak_cons (gk_tup (ak_cons (gk_c fun _ => .ty _) (ak_cons (gk_c fun _ => .ty _) ak_nil))) ak_nil)))) : SOk K _ b_is_sequence)
theorem sc_is_less : FnScope nm_is_less pm_is_less (defScope s_is_less) := ⟨rfl, rfl, rfl, by decide +kernel, rfl, by decide +kernel, by decide +kernel⟩
theorem bi_is_less (T : Txt K mg) : Binds K T.is_less.fd pm_is_less [] := T.is_less.F.binds fun _ _ _ _ _ _ us hl => by obtain ⟨_, _, rfl⟩ := len2 hl; rfl
theorem ok_is_less (T : Txt K mg) : FnOk P w K mg base CX0 1 T.is_less.f T.is_less.fd pm_is_less (spF K r_is_less) := by
  have nd := sc_is_less.nd
  refine data_F T.is_less.F sc_is_less fun cdv A outer s H E hr => ?_
  refine ⟨_, (pss_one (ps_ret (pe_cmpR op_lt (pe_op op_mulA (pe_ix (kix (K := K) rfl) (pv 0) pe_int (fun _ _ => rfl)) (pe_ix (kix (K := K) rfl) (pv 1) pe_int (fun _ _ => rfl))) (pe_op op_mulA (pe_ix (kix (K := K) rfl) (pv 1) pe_int (fun _ _ => rfl)) (pe_ix (kix (K := K) rfl) (pv 0) pe_int (fun _ _ => rfl))) (nomark _)))), ?_⟩
  exact ((sk_ret (gk_op od_lt (gk_op od_mul (gk_op od_ix gk_var gk_int) (gk_op od_ix gk_var gk_int)) (gk_op od_mul (gk_op od_ix gk_var gk_int) (gk_op od_ix gk_var gk_int)))) : SOk K _ b_is_less)
theorem sc_is_integer : FnScope nm_is_integer pm_is_integer (defScope s_is_integer) := ⟨rfl, rfl, rfl, by decide +kernel, rfl, by decide +kernel, by decide +kernel⟩
theorem bi_is_integer (T : Txt K mg) : Binds K T.is_integer.fd pm_is_integer [] := T.is_integer.F.binds fun _ _ _ _ _ _ us hl => by obtain ⟨_, rfl⟩ := len1 hl; rfl
theorem ok_is_integer (T : Txt K mg) : FnOk P w K mg base CX0 1 T.is_integer.f T.is_integer.fd pm_is_integer (spF K r_is_integer) := by
  have nd := sc_is_integer.nd
  refine data_F T.is_integer.F sc_is_integer fun cdv A outer s H E hr => ?_
  refine ⟨_, (pss_one (ps_ret (pe_and (pe_callB (kcr_isi (K := K) rfl) (by rfl) T.isinstance (by decide +kernel) (pa_cons (pv 0) (pa_cons (pe_bltn (v := .ty "int") (u := .type "int") (by rfl) T.int (by decide +kernel) rfl) pa_nil))) (pe_one (pe_not (pe_callB (kcr_isi (K := K) rfl) (by rfl) T.isinstance (by decide +kernel) (pa_cons (pv 0) (pa_cons (pe_bltn (v := .ty "bool") (u := .type "bool") (by rfl) T.bool (by decide +kernel) rfl) pa_nil)))))))), ?_⟩
  exact ((sk_ret (gk_vand (gk_cb (cd_isiU T.Rule.at_ T.iu_Rule) (ak_cons gk_var (ak_cons (gk_c fun _ => .ty _) ak_nil))) (gk_vnot (gk_cb (cd_isiU T.Rule.at_ T.iu_Rule) (ak_cons gk_var (ak_cons (gk_c fun _ => .ty _) ak_nil)))))) : SOk K _ b_is_integer)
theorem sc_divisor : FnScope nm_divisor pm_divisor (defScope s_divisor) := ⟨rfl, rfl, rfl, by decide +kernel, rfl, by decide +kernel, by decide +kernel⟩
theorem bi_divisor (T : Txt K mg) : Binds K T.divisor.fd pm_divisor [] := T.divisor.F.binds fun _ _ _ _ _ _ us hl => by obtain ⟨_, _, rfl⟩ := len2 hl; rfl
theorem ok_divisor (T : Txt K mg) : FnOk P w K mg base CX0 1 T.divisor.f T.divisor.fd pm_divisor (spF K r_divisor) := by
  have nd := sc_divisor.nd
  refine data_F T.divisor.F sc_divisor fun cdv A outer s H E hr => ?_
  refine ⟨_, (pss_cons (ps_par (i := 0) (j := 1) rfl nd rfl rfl (by decide) rfl rfl (pa_cons (pe_callB cr_abs (by rfl) T.abs (by decide +kernel) (pa_cons (pv 0) pa_nil)) (pa_cons (pe_callB cr_abs (by rfl) T.abs (by decide +kernel) (pa_cons (pv 1) pa_nil)) pa_nil)) (by rfl))
    (pss_cons (ps_while PassesOwn.never (pt_cmpR (kop_ne (K := K) rfl hr.units) (pv 1) pe_int (nomark _)) (pss_one (ps_par (i := 0) (j := 1) rfl nd rfl rfl (by decide) rfl rfl (pa_cons (pv 1) (pa_cons (pe_op op_modA (pv 0) (pv 1)) pa_nil)) (by rfl))))
    (pss_one (ps_ret (pv 0))))), ?_⟩
  exact ((sk_seq (sk_ypar (yk_cons (gk_cb cd_abs (ak_cons gk_var ak_nil)) (yk_cons (gk_cb cd_abs (ak_cons gk_var ak_nil)) yk_nil)))
    (sk_seq (sk_while (fuelI 1) (tk_test (gk_op od_ne gk_var gk_int)) ((sk_ypar (yk_cons gk_var (yk_cons (gk_op od_mod gk_var gk_var) yk_nil))) : SOk K _ b_divisor_1))
    (sk_ret gk_mv))) : SOk K _ b_divisor)
theorem sc_is_pair : FnScope nm_is_pair pm_is_pair (defScope s_is_pair) := ⟨rfl, rfl, rfl, by decide +kernel, rfl, by decide +kernel, by decide +kernel⟩
theorem bi_is_pair (T : Txt K mg) : Binds K T.is_pair.fd pm_is_pair [] := T.is_pair.F.binds fun _ _ _ _ _ _ us hl => by obtain ⟨_, rfl⟩ := len1 hl; rfl
theorem ok_is_pair (T : Txt K mg) : FnOk P w K mg base CX0 2 T.is_pair.f T.is_pair.fd pm_is_pair (spF K r_is_pair) := by
  have nd := sc_is_pair.nd
  refine data_F T.is_pair.F sc_is_pair fun cdv A outer s H E hr => ?_
  refine ⟨_, (pss_cons (ps_if (PW.pt (pw_or (pt_not (kpt_tru (K := K) rfl (pe_callB (kcr_isi (K := K) rfl) (by rfl) T.isinstance (by decide +kernel) (pa_cons (pv 0) (pa_cons (pe_bltn (v := .ty "tuple") (u := .type "tuple") (by rfl) T.tuple (by decide +kernel) rfl) pa_nil))) (by intro _; rfl))) (pw_or (pt_cmpR (kop_ne (K := K) rfl hr.units) (pe_callB (kcr_len (K := K) rfl) (by rfl) T.len (by decide +kernel) (pa_cons (pv 0) pa_nil)) pe_int (nomark _)) (pw_or1 (pt_not (kpt_tru (K := K) rfl (pe_callB (kcr_all (K := K) rfl rfl) (by rfl) T.all (by decide +kernel) (pa_cons (pe_lc (own := [("one", 1)]) rfl nd (kpi_seq (K := K) rfl (pv 0)) (blkOk_by (N := nm_is_pair) (sc := defScope s_is_pair) (by decide +kernel)) (fun _ _ _ _ _ => (pg_name (i := 1) nd rfl (Or.inl rfl))) (fun _ _ _ _ _ => pts_nil) (fun _ _ _ _ _ => (pe_call (ok_is_integer T) (hr.mono (by decide)) rfl T.is_integer.m T.is_integer.F.kp (bi_is_integer T) .nil pass0 (pa_cons (pv 1) pa_nil)))) pa_nil)) (by intro _; rfl))))))) (pss_one (ps_ret pe_bl)) pss_nil)
    (pss_one (ps_ret (pe_and (pe_cmpR op_gt (pe_ix (kix (K := K) rfl) (pv 0) pe_int (fun _ _ => rfl)) pe_int (nomark _)) (pe_one (pe_cmpR (kop_eq (K := K) rfl hr.units) (pe_call (ok_divisor T) (hr.mono (by decide)) rfl T.divisor.m T.divisor.F.kp (bi_divisor T) .nil pass0 (pa_cons (pe_ix (kix (K := K) rfl) (pv 0) pe_int (fun _ _ => rfl)) (pa_cons (pe_ix (kix (K := K) rfl) (pv 0) pe_int (fun _ _ => rfl)) pa_nil))) pe_int (nomark _))))))), ?_⟩
  exact ((sk_seq (sk_if (tk_or (tk_not (tk_truK (gk_cb (cd_isiU T.Rule.at_ T.iu_Rule) (ak_cons gk_var (ak_cons (gk_c fun _ => .ty _) ak_nil))))) (tk_or (tk_test (gk_op od_ne (gk_cb cd_len (ak_cons gk_var ak_nil)) gk_int)) (tk_not (tk_truK (gk_cb cd_all (ak_cons (gk_lc (ik_seq gk_var) gt_name tk_yes (gk_call (ak_cons gk_var ak_nil)) (by decide)) ak_nil)))))) (sk_ret gk_bl) sk_next)
    (sk_ret (gk_vand (gk_op od_gt (gk_op od_ix gk_var gk_int) gk_int) (gk_op od_eq (gk_call (ak_cons (gk_op od_ix gk_var gk_int) (ak_cons (gk_op od_ix gk_var gk_int) ak_nil))) gk_int)))) : SOk K _ b_is_pair)
theorem sc_is_value : FnScope nm_is_value pm_is_value (defScope s_is_value) := ⟨rfl, rfl, rfl, by decide +kernel, rfl, by decide +kernel, by decide +kernel⟩
theorem bi_is_value (T : Txt K mg) : Binds K T.is_value.fd pm_is_value [] := T.is_value.F.binds fun _ _ _ _ _ _ us hl => by obtain ⟨_, rfl⟩ := len1 hl; rfl
theorem ok_is_value (T : Txt K mg) : FnOk P w K mg base CX0 3 T.is_value.f T.is_value.fd pm_is_value (spF K r_is_value) := by
  have nd := sc_is_value.nd
  refine data_F T.is_value.F sc_is_value fun cdv A outer s H E hr => ?_
  refine ⟨_, (pss_one (ps_ret (pe_or (pe_call (ok_is_integer T) (hr.mono (by decide)) rfl T.is_integer.m T.is_integer.F.kp (bi_is_integer T) .nil pass0 (pa_cons (pv 0) pa_nil)) (pe_one (pe_call (ok_is_pair T) (hr.mono (by decide)) rfl T.is_pair.m T.is_pair.F.kp (bi_is_pair T) .nil pass0 (pa_cons (pv 0) pa_nil)))))), ?_⟩
  exact ((sk_ret (gk_vor (gk_call (ak_cons gk_var ak_nil)) (gk_call (ak_cons gk_var ak_nil)))) : SOk K _ b_is_value)
theorem sc_value_of : FnScope nm_value_of pm_value_of (defScope s_value_of) := ⟨rfl, rfl, rfl, by decide +kernel, rfl, by decide +kernel, by decide +kernel⟩
theorem bi_value_of (T : Txt K mg) : Binds K T.value_of.fd pm_value_of [] := T.value_of.F.binds fun _ _ _ _ _ _ us hl => by obtain ⟨_, rfl⟩ := len1 hl; rfl
theorem ok_value_of (T : Txt K mg) : FnOk P w K mg base CX0 2 T.value_of.f T.value_of.fd pm_value_of (spF K r_value_of) := by
  have nd := sc_value_of.nd
  refine data_F T.value_of.F sc_value_of fun cdv A outer s H E hr => ?_
  refine ⟨_, (pss_one (ps_ret (pe_ifExp (kpt_tru (K := K) rfl (pe_call (ok_is_integer T) (hr.mono (by decide)) rfl T.is_integer.m T.is_integer.F.kp (bi_is_integer T) .nil pass0 (pa_cons (pv 0) pa_nil)) (by intro _; rfl)) (pe_tup (pa_cons (pv 0) (pa_cons pe_int pa_nil))) (pv 0)))), ?_⟩
  exact ((sk_ret (gk_if (tk_truK (gk_call (ak_cons gk_var ak_nil))) (gk_tup (ak_cons gk_var (ak_cons gk_int ak_nil))) gk_var)) : SOk K _ b_value_of)
theorem sc_is_between : FnScope nm_is_between pm_is_between (defScope s_is_between) := ⟨rfl, rfl, rfl, by decide +kernel, rfl, by decide +kernel, by decide +kernel⟩
theorem bi_is_between (T : Txt K mg) : Binds K T.is_between.fd pm_is_between [] := T.is_between.F.binds fun _ _ _ _ _ _ us hl => by obtain ⟨_, _, _, rfl⟩ := len3 hl; rfl
theorem ok_is_between (T : Txt K mg) : FnOk P w K mg base CX0 4 T.is_between.f T.is_between.fd pm_is_between (spF K r_is_between) := by
  have nd := sc_is_between.nd
  refine data_F T.is_between.F sc_is_between fun cdv A outer s H E hr => ?_
  refine ⟨_, (pss_one (ps_ret (pe_and (pe_call (ok_is_value T) (hr.mono (by decide)) rfl T.is_value.m T.is_value.F.kp (bi_is_value T) .nil pass0 (pa_cons (pv 0) pa_nil)) (pe_and (pe_not (pe_call (ok_is_less T) (hr.mono (by decide)) rfl T.is_less.m T.is_less.F.kp (bi_is_less T) .nil pass0 (pa_cons (pe_call (ok_value_of T) (hr.mono (by decide)) rfl T.value_of.m T.value_of.F.kp (bi_value_of T) .nil pass0 (pa_cons (pv 0) pa_nil)) (pa_cons (pv 1) pa_nil)))) (pe_one (pe_not (pe_call (ok_is_less T) (hr.mono (by decide)) rfl T.is_less.m T.is_less.F.kp (bi_is_less T) .nil pass0 (pa_cons (pv 2) (pa_cons (pe_call (ok_value_of T) (hr.mono (by decide)) rfl T.value_of.m T.value_of.F.kp (bi_value_of T) .nil pass0 (pa_cons (pv 0) pa_nil)) pa_nil))))))))), ?_⟩
  exact ((sk_ret (gk_vand (gk_call (ak_cons gk_var ak_nil)) (gk_vand (gk_vnot (gk_call (ak_cons (gk_call (ak_cons gk_var ak_nil)) (ak_cons gk_var ak_nil)))) (gk_vnot (gk_call (ak_cons gk_var (ak_cons (gk_call (ak_cons gk_var ak_nil)) ak_nil))))))) : SOk K _ b_is_between)
theorem sc_is_share : FnScope nm_is_share pm_is_share (defScope s_is_share) := ⟨rfl, rfl, rfl, by decide +kernel, rfl, by decide +kernel, by decide +kernel⟩
theorem bi_is_share (T : Txt K mg) : Binds K T.is_share.fd pm_is_share [] := T.is_share.F.binds fun _ _ _ _ _ _ us hl => by obtain ⟨_, _, _, rfl⟩ := len3 hl; rfl
theorem ok_is_share (T : Txt K mg) : FnOk P w K mg base CX0 5 T.is_share.f T.is_share.fd pm_is_share (spF K r_is_share) := by
  have nd := sc_is_share.nd
  refine data_F T.is_share.F sc_is_share fun cdv A outer s H E hr => ?_
  refine ⟨_, (pss_cons (ps_if (PW.pt (pw_or (pt_not (kpt_tru (K := K) rfl (pe_callB (kcr_isi (K := K) rfl) (by rfl) T.isinstance (by decide +kernel) (pa_cons (pv 0) (pa_cons (pe_bltn (v := .ty "tuple") (u := .type "tuple") (by rfl) T.tuple (by decide +kernel) rfl) pa_nil))) (by intro _; rfl))) (pw_or (pt_cmpR (kop_ne (K := K) rfl hr.units) (pe_callB (kcr_len (K := K) rfl) (by rfl) T.len (by decide +kernel) (pa_cons (pv 0) pa_nil)) pe_int (nomark _)) (pw_or1 (pt_not (kpt_tru (K := K) rfl (pe_call (ok_is_value T) (hr.mono (by decide)) rfl T.is_value.m T.is_value.F.kp (bi_is_value T) .nil pass0 (pa_cons (pe_ix (kix (K := K) rfl) (pv 0) pe_int (fun _ _ => rfl)) pa_nil)) (by intro _; rfl))))))) (pss_one (ps_ret pe_bl)) pss_nil)
    (pss_cons (ps_if (PW.pt (pw_or (pt_not (kpt_tru (K := K) rfl (pe_call (ok_is_between T) (hr.mono (by decide)) rfl T.is_between.m T.is_between.F.kp (bi_is_between T) .nil pass0 (pa_cons (pe_ix (kix (K := K) rfl) (pv 0) pe_int (fun _ _ => rfl)) (pa_cons (pv 1) (pa_cons (pv 2) pa_nil)))) (by intro _; rfl))) (pw_or1 (pt_not (kpt_tru (K := K) rfl (pe_call (ok_is_between T) (hr.mono (by decide)) rfl T.is_between.m T.is_between.F.kp (bi_is_between T) .nil pass0 (pa_cons (pe_ix (kix (K := K) rfl) (pv 0) pe_int (fun _ _ => rfl)) (pa_cons (pv 1) (pa_cons (pv 2) pa_nil)))) (by intro _; rfl)))))) (pss_one (ps_ret pe_bl)) pss_nil)
    (pss_one (ps_ret (pe_call (ok_is_less T) (hr.mono (by decide)) rfl T.is_less.m T.is_less.F.kp (bi_is_less T) .nil pass0 (pa_cons (pe_call (ok_value_of T) (hr.mono (by decide)) rfl T.value_of.m T.value_of.F.kp (bi_value_of T) .nil pass0 (pa_cons (pe_ix (kix (K := K) rfl) (pv 0) pe_int (fun _ _ => rfl)) pa_nil)) (pa_cons (pe_call (ok_value_of T) (hr.mono (by decide)) rfl T.value_of.m T.value_of.F.kp (bi_value_of T) .nil pass0 (pa_cons (pe_ix (kix (K := K) rfl) (pv 0) pe_int (fun _ _ => rfl)) pa_nil)) pa_nil))))))), ?_⟩
  exact ((sk_seq (sk_if (tk_or (tk_not (tk_truK (gk_cb (cd_isiU T.Rule.at_ T.iu_Rule) (ak_cons gk_var (ak_cons (gk_c fun _ => .ty _) ak_nil))))) (tk_or (tk_test (gk_op od_ne (gk_cb cd_len (ak_cons gk_var ak_nil)) gk_int)) (tk_not (tk_truK (gk_call (ak_cons (gk_op od_ix gk_var gk_int) ak_nil)))))) (sk_ret gk_bl) sk_next)
    (sk_seq (sk_if (tk_or (tk_not (tk_truK (gk_call (ak_cons (gk_op od_ix gk_var gk_int) (ak_cons gk_var (ak_cons gk_var ak_nil)))))) (tk_not (tk_truK (gk_call (ak_cons (gk_op od_ix gk_var gk_int) (ak_cons gk_var (ak_cons gk_var ak_nil))))))) (sk_ret gk_bl) sk_next)
    (sk_ret (gk_call (ak_cons (gk_call (ak_cons (gk_op od_ix gk_var gk_int) ak_nil)) (ak_cons (gk_call (ak_cons (gk_op od_ix gk_var gk_int) ak_nil)) ak_nil)))))) : SOk K _ b_is_share)
theorem sc_is_weight : FnScope nm_is_weight pm_is_weight (defScope s_is_weight) := ⟨rfl, rfl, rfl, by decide +kernel, rfl, by decide +kernel, by decide +kernel⟩
theorem bi_is_weight (T : Txt K mg) : Binds K T.is_weight.fd pm_is_weight [] := T.is_weight.F.binds fun _ _ _ _ _ _ us hl => by obtain ⟨_, _, _, rfl⟩ := len3 hl; rfl
theorem ok_is_weight (T : Txt K mg) : FnOk P w K mg base CX0 5 T.is_weight.f T.is_weight.fd pm_is_weight (spF K r_is_weight) := by
  have nd := sc_is_weight.nd
  refine data_F T.is_weight.F sc_is_weight fun cdv A outer s H E hr => ?_
  refine ⟨_, (pss_cons (ps_if (PW.pt (pw_or (pt_not (kpt_tru (K := K) rfl (pe_callB (kcr_isi (K := K) rfl) (by rfl) T.isinstance (by decide +kernel) (pa_cons (pv 0) (pa_cons (pe_bltn (v := .ty "tuple") (u := .type "tuple") (by rfl) T.tuple (by decide +kernel) rfl) pa_nil))) (by intro _; rfl))) (pw_or1 (pt_cmpR (kop_ne (K := K) rfl hr.units) (pe_callB (kcr_len (K := K) rfl) (by rfl) T.len (by decide +kernel) (pa_cons (pv 0) pa_nil)) pe_int (nomark _))))) (pss_one (ps_ret pe_bl)) pss_nil)
    (pss_one (ps_ret (pe_and (pe_call (ok_is_between T) (hr.mono (by decide)) rfl T.is_between.m T.is_between.F.kp (bi_is_between T) .nil pass0 (pa_cons (pe_ix (kix (K := K) rfl) (pv 0) pe_int (fun _ _ => rfl)) (pa_cons (pv 1) (pa_cons (pv 2) pa_nil)))) (pe_one (pe_call (ok_is_value T) (hr.mono (by decide)) rfl T.is_value.m T.is_value.F.kp (bi_is_value T) .nil pass0 (pa_cons (pe_ix (kix (K := K) rfl) (pv 0) pe_int (fun _ _ => rfl)) pa_nil))))))), ?_⟩
  exact ((sk_seq (sk_if (tk_or (tk_not (tk_truK (gk_cb (cd_isiU T.Rule.at_ T.iu_Rule) (ak_cons gk_var (ak_cons (gk_c fun _ => .ty _) ak_nil))))) (tk_test (gk_op od_ne (gk_cb cd_len (ak_cons gk_var ak_nil)) gk_int))) (sk_ret gk_bl) sk_next)
    (sk_ret (gk_vand (gk_call (ak_cons (gk_op od_ix gk_var gk_int) (ak_cons gk_var (ak_cons gk_var ak_nil)))) (gk_call (ak_cons (gk_op od_ix gk_var gk_int) ak_nil))))) : SOk K _ b_is_weight)
theorem sc_ascending : FnScope nm_ascending pm_ascending (defScope s_ascending) := ⟨rfl, rfl, rfl, by decide +kernel, rfl, by decide +kernel, by decide +kernel⟩
theorem bi_ascending (T : Txt K mg) : Binds K T.ascending.fd pm_ascending [] := T.ascending.F.binds fun _ _ _ _ _ _ us hl => by obtain ⟨_, rfl⟩ := len1 hl; rfl
theorem ok_ascending (T : Txt K mg) : FnOk P w K mg base CX0 2 T.ascending.f T.ascending.fd pm_ascending (spF K r_ascending) := by
  have nd := sc_ascending.nd
  refine data_F T.ascending.F sc_ascending fun cdv A outer s H E hr => ?_
  refine ⟨_, (pss_cons (ps_set (i := 1) nd rfl (Or.inr rfl) pe_int)
    (pss_cons (ps_for PassesOwn.never rfl (kpi_seq (K := K) rfl (pv 0)) (kpg_tup (K := K) (n := 2) rfl rfl (pgs_cons (pg_name (i := 2) nd rfl (Or.inl rfl)) (pgs_cons (pg_name (i := 3) nd rfl (Or.inl rfl)) pgs_nil))) (pss_one (ps_set (i := 1) nd rfl (Or.inr rfl) (pe_op op_fdivA (pe_op op_mulA (pv 1) (pv 3)) (pe_call (ok_divisor T) (hr.mono (by decide)) rfl T.divisor.m T.divisor.F.kp (bi_divisor T) .nil pass0 (pa_cons (pv 1) (pa_cons (pv 3) pa_nil)))))))
    (pss_cons (ps_set (i := 4) nd rfl (Or.inr rfl) (pe_callB (kcr_sorted (K := K) rfl (room_u2 hr)) (by rfl) T.sorted (by decide +kernel) (pa_cons (pe_lc (own := [("one", 5)]) rfl nd (kpi_seq (K := K) rfl (pv 0)) (blkOk_by (N := nm_ascending) (sc := defScope s_ascending) (by decide +kernel)) (fun _ _ _ _ _ => (pg_name (i := 5) nd rfl (Or.inl rfl))) (fun _ _ _ _ _ => pts_nil) (fun _ _ _ _ _ => (pe_tup (pa_cons (pe_op op_mulA (pe_ix (kix (K := K) rfl) (pv 5) pe_int (fun _ _ => rfl)) (pe_op op_fdivA (pv 1) (pe_ix (kix (K := K) rfl) (pv 5) pe_int (fun _ _ => rfl)))) (pa_cons (pv 5) pa_nil))))) pa_nil)))
    (pss_one (ps_ret (pe_lc (own := [("at", 6), ("place", 7), ("one", 5)]) rfl nd (kpi_enumA (K := K) rfl rfl T.enumerate (pa_cons (pv 4) pa_nil)) (blkOk_by (N := nm_ascending) (sc := defScope s_ascending) (by decide +kernel)) (fun _ _ _ _ _ => (kpg_tup (K := K) (n := 2) rfl rfl (pgs_cons (pg_name (i := 6) nd rfl (Or.inl rfl)) (pgs_cons (kpg_tup (K := K) (n := 2) rfl rfl (pgs_cons (pg_name (i := 7) nd rfl (Or.inl rfl)) (pgs_cons (pg_name (i := 5) nd rfl (Or.inl rfl)) pgs_nil))) pgs_nil)))) (fun _ _ _ _ _ => (pts_one (PW.pt (pw_or (pt_cmpR (kop_eq (K := K) rfl hr.units) (pv 6) pe_int (nomark _)) (pw_or1 (pt_cmpR (kop_ne (K := K) rfl hr.units) (pe_ix (kix (K := K) rfl) (pe_ix (kix (K := K) rfl) (pv 4) (pe_op op_subA (pv 6) pe_int) (fun _ _ => rfl)) pe_int (fun _ _ => rfl)) (pv 5) (nomark _))))))) (fun _ _ _ _ _ => (pv 5)))))))), ?_⟩
  exact ((sk_seq (sk_set gk_int)
    (sk_seq (sk_for (ik_seq gk_var) (gt_tup (gts_cons gt_name (gts_cons gt_name gts_nil))) ((sk_set (gk_op od_fdiv (gk_op od_mul gk_var gk_var) (gk_call (ak_cons gk_var (ak_cons gk_var ak_nil))))) : SOk K _ b_ascending_1))
    (sk_seq (sk_set (gk_cb cd_sorted (ak_cons (gk_lc (ik_seq gk_var) gt_name tk_yes (gk_tup (ak_cons (gk_op od_mul (gk_op od_ix gk_var gk_int) (gk_op od_fdiv gk_var (gk_op od_ix gk_var gk_int))) (ak_cons gk_var ak_nil))) (by decide)) ak_nil)))
    (sk_ret (gk_lc (ik_enumA (ak_cons gk_var ak_nil)) (gt_tup (gts_cons gt_name (gts_cons (gt_tup (gts_cons gt_name (gts_cons gt_name gts_nil))) gts_nil))) (tk_or (tk_test (gk_op od_eq gk_var gk_int)) (tk_test (gk_op od_ne (gk_op od_ix (gk_op od_ix gk_var (gk_op od_sub gk_var gk_int)) gk_int) gk_var))) gk_var (by decide)))))) : SOk K _ b_ascending)
theorem sc_lowest : FnScope nm_lowest pm_lowest (defScope s_lowest) := ⟨rfl, rfl, rfl, by decide +kernel, rfl, by decide +kernel, by decide +kernel⟩
theorem bi_lowest (T : Txt K mg) : Binds K T.lowest.fd pm_lowest [] := T.lowest.F.binds fun _ _ _ _ _ _ us hl => by obtain ⟨_, _, rfl⟩ := len2 hl; rfl
theorem ok_lowest (T : Txt K mg) : FnOk P w K mg base CX0 2 T.lowest.f T.lowest.fd pm_lowest (spF K r_lowest) := by
  have nd := sc_lowest.nd
  refine data_F T.lowest.F sc_lowest fun cdv A outer s H E hr => ?_
  refine ⟨_, (pss_cons (ps_set (i := 2) nd rfl (Or.inl rfl) (pe_call (ok_divisor T) (hr.mono (by decide)) rfl T.divisor.m T.divisor.F.kp (bi_divisor T) .nil pass0 (pa_cons (pv 0) (pa_cons (pv 1) pa_nil))))
    (pss_cons (ps_set (i := 2) nd rfl (Or.inl rfl) (pe_ifExp (pt_cmpR op_lt (pv 1) pe_int (nomark _)) (pe_un un_neg (pv 2)) (pv 2)))
    (pss_one (ps_ret (pe_tup (pa_cons (pe_op op_fdivA (pv 0) (pv 2)) (pa_cons (pe_op op_fdivA (pv 1) (pv 2)) pa_nil))))))), ?_⟩
  exact ((sk_seq (sk_set (gk_call (ak_cons gk_var (ak_cons gk_var ak_nil))))
    (sk_seq (sk_set (gk_if (tk_test (gk_op od_lt gk_var gk_int)) (gk_un ud_neg gk_var) gk_var))
    (sk_ret (gk_tup (ak_cons (gk_op od_fdiv gk_var gk_var) (ak_cons (gk_op od_fdiv gk_var gk_var) ak_nil)))))) : SOk K _ b_lowest)
theorem sc_added : FnScope nm_added pm_added (defScope s_added) := ⟨rfl, rfl, rfl, by decide +kernel, rfl, by decide +kernel, by decide +kernel⟩
theorem bi_added (T : Txt K mg) : Binds K T.added.fd pm_added [] := T.added.F.binds fun _ _ _ _ _ _ us hl => by obtain ⟨_, _, rfl⟩ := len2 hl; rfl
theorem ok_added (T : Txt K mg) : FnOk P w K mg base CX0 3 T.added.f T.added.fd pm_added (spF K r_added) := by
  have nd := sc_added.nd
  refine data_F T.added.F sc_added fun cdv A outer s H E hr => ?_
  refine ⟨_, (pss_one (ps_ret (pe_call (ok_lowest T) (hr.mono (by decide)) rfl T.lowest.m T.lowest.F.kp (bi_lowest T) .nil pass0 (pa_cons (pe_op (kop_addB (K := K) rfl) (pe_op op_mulA (pe_ix (kix (K := K) rfl) (pv 0) pe_int (fun _ _ => rfl)) (pe_ix (kix (K := K) rfl) (pv 1) pe_int (fun _ _ => rfl))) (pe_op op_mulA (pe_ix (kix (K := K) rfl) (pv 1) pe_int (fun _ _ => rfl)) (pe_ix (kix (K := K) rfl) (pv 0) pe_int (fun _ _ => rfl)))) (pa_cons (pe_op op_mulA (pe_ix (kix (K := K) rfl) (pv 0) pe_int (fun _ _ => rfl)) (pe_ix (kix (K := K) rfl) (pv 1) pe_int (fun _ _ => rfl))) pa_nil))))), ?_⟩
  exact ((sk_ret (gk_call (ak_cons (gk_op od_addB (gk_op od_mul (gk_op od_ix gk_var gk_int) (gk_op od_ix gk_var gk_int)) (gk_op od_mul (gk_op od_ix gk_var gk_int) (gk_op od_ix gk_var gk_int))) (ak_cons (gk_op od_mul (gk_op od_ix gk_var gk_int) (gk_op od_ix gk_var gk_int)) ak_nil)))) : SOk K _ b_added)
theorem sc_summed : FnScope nm_summed pm_summed (defScope s_summed) := ⟨rfl, rfl, rfl, by decide +kernel, rfl, by decide +kernel, by decide +kernel⟩
theorem bi_summed (T : Txt K mg) : Binds K T.summed.fd pm_summed [] := T.summed.F.binds fun _ _ _ _ _ _ us hl => by obtain ⟨_, rfl⟩ := len1 hl; rfl
theorem ok_summed (T : Txt K mg) : FnOk P w K mg base CX0 4 T.summed.f T.summed.fd pm_summed (spF K r_summed) := by
  have nd := sc_summed.nd
  refine data_F T.summed.F sc_summed fun cdv A outer s H E hr => ?_
  refine ⟨_, (pss_cons (ps_set (i := 1) nd rfl (Or.inl rfl) (pe_glob rfl T.NOUGHT.m T.NOUGHT.r))
    (pss_cons (ps_for PassesOwn.never rfl (kpi_seq (K := K) rfl (pv 0)) (pg_name (i := 2) nd rfl (Or.inl rfl)) (pss_one (ps_set (i := 1) nd rfl (Or.inl rfl) (pe_call (ok_added T) (hr.mono (by decide)) rfl T.added.m T.added.F.kp (bi_added T) .nil pass0 (pa_cons (pv 1) (pa_cons (pv 2) pa_nil))))))
    (pss_one (ps_ret (pv 1))))), ?_⟩
  exact ((sk_seq (sk_set (gk_c T.NOUGHT.d))
    (sk_seq (sk_for (ik_seq gk_var) gt_name ((sk_set (gk_call (ak_cons gk_var (ak_cons gk_var ak_nil)))) : SOk K _ b_summed_1))
    (sk_ret gk_mv))) : SOk K _ b_summed)
theorem sc_least_shares : FnScope nm_least_shares pm_least_shares (defScope s_least_shares) := ⟨rfl, rfl, rfl, by decide +kernel, rfl, by decide +kernel, by decide +kernel⟩
theorem bi_least_shares (T : Txt K mg) : Binds K T.least_shares.fd pm_least_shares [] := T.least_shares.F.binds fun _ _ _ _ _ _ us hl => by obtain ⟨_, rfl⟩ := len1 hl; rfl
theorem ok_least_shares (T : Txt K mg) : FnOk P w K mg base CX0 5 T.least_shares.f T.least_shares.fd pm_least_shares (spF K r_least_shares) := by
  have nd := sc_least_shares.nd
  refine data_F T.least_shares.F sc_least_shares fun cdv A outer s H E hr => ?_
  refine ⟨_, (pss_cons (ps_setLc (i := 1) (own := [("start", 4), ("end", 5), ("share", 8)]) rfl nd rfl rfl (sw_true rfl rfl rfl (by decide +kernel)) (kpi_seq (K := K) rfl (pv 0)) (blkOk_by (N := nm_least_shares) (sc := defScope s_least_shares) (by decide +kernel)) (fun _ _ _ _ _ => (kpg_tup (K := K) (n := 3) rfl rfl (pgs_cons (pg_name (i := 4) nd rfl (Or.inl rfl)) (pgs_cons (pg_name (i := 5) nd rfl (Or.inl rfl)) (pgs_cons (pg_name (i := 8) nd rfl (Or.inl rfl)) pgs_nil))))) (fun _ _ _ _ _ => pts_nil) (fun _ _ _ _ _ => (pe_tup (pa_cons (pe_call (ok_value_of T) (hr.mono (by decide)) rfl T.value_of.m T.value_of.F.kp (bi_value_of T) .nil pass0 (pa_cons (pv 4) pa_nil)) (pa_cons (pe_call (ok_value_of T) (hr.mono (by decide)) rfl T.value_of.m T.value_of.F.kp (bi_value_of T) .nil pass0 (pa_cons (pv 5) pa_nil)) (pa_cons (pe_call (ok_value_of T) (hr.mono (by decide)) rfl T.value_of.m T.value_of.F.kp (bi_value_of T) .nil pass0 (pa_cons (pv 8) pa_nil)) pa_nil))))))
    (pss_cons (ps_set (i := 2) nd rfl (Or.inl rfl) (pe_call (ok_ascending T) (hr.mono (by decide)) rfl T.ascending.m T.ascending.F.kp (bi_ascending T) .nil pass0 (pa_cons (pe_lc2 (own := [("start", 4), ("end", 5), ("share", 8), ("one", 9)]) (vs1 := [9]) rfl nd (kpi_seq (K := K) rfl (pv 1)) (blkOk_by (N := nm_least_shares) (sc := defScope s_least_shares) (by decide +kernel)) (by decide) (fun _ _ _ _ _ => (kpg_tup (K := K) (n := 3) rfl rfl (pgs_cons (pg_name (i := 4) nd rfl (Or.inl rfl)) (pgs_cons (pg_name (i := 5) nd rfl (Or.inl rfl)) (pgs_cons (pg_name (i := 8) nd rfl (Or.inl rfl)) pgs_nil))))) (fun _ _ _ _ _ => pts_nil) (fun _ _ _ _ _ => (kpi_seq (K := K) rfl (pe_tup (pa_cons (pv 4) (pa_cons (pv 5) pa_nil))))) (fun _ _ _ _ _ => (pg_name (i := 9) nd rfl (Or.inl rfl))) (fun _ _ _ _ _ => pts_nil) (fun _ _ _ _ _ => (pv 9))) pa_nil)))
    (pss_cons (ps_set (i := 3) nd rfl (Or.inl rfl) (pe_lst pa_nil))
    (pss_cons (ps_for PassesOwn.never rfl (kpi_zipA (K := K) rfl rfl T.zip (pa_cons (pv 2) (pa_cons (pe_slice (ksl_B (K := K) rfl) (pv 2) (po_some pe_int) po_none) pa_nil))) (kpg_tup (K := K) (n := 2) rfl rfl (pgs_cons (pg_name (i := 4) nd rfl (Or.inr rfl)) (pgs_cons (pg_name (i := 5) nd rfl (Or.inr rfl)) pgs_nil))) (pss_cons (ps_setLc (i := 6) (own := [("first", 10), ("last", 11), ("share", 8)]) rfl nd rfl rfl (sw_true rfl rfl rfl (by decide +kernel)) (kpi_seq (K := K) rfl (pv 1)) (blkOk_by (N := nm_least_shares) (sc := defScope s_least_shares) (by decide +kernel)) (fun _ _ _ _ _ => (kpg_tup (K := K) (n := 3) rfl rfl (pgs_cons (pg_name (i := 10) nd rfl (Or.inl rfl)) (pgs_cons (pg_name (i := 11) nd rfl (Or.inl rfl)) (pgs_cons (pg_name (i := 8) nd rfl (Or.inl rfl)) pgs_nil))))) (fun _ _ _ _ _ => (pts_one (PW.pt (pw_and (pt_not (kpt_tru (K := K) rfl (pe_call (ok_is_less T) (hr.mono (by decide)) rfl T.is_less.m T.is_less.F.kp (bi_is_less T) .nil pass0 (pa_cons (pv 4) (pa_cons (pv 10) pa_nil))) (by intro _; rfl))) (pw_and1 (pt_not (kpt_tru (K := K) rfl (pe_call (ok_is_less T) (hr.mono (by decide)) rfl T.is_less.m T.is_less.F.kp (bi_is_less T) .nil pass0 (pa_cons (pv 11) (pa_cons (pv 5) pa_nil))) (by intro _; rfl)))))))) (fun _ _ _ _ _ => (pv 8)))
    (pss_cons (ps_set (i := 7) nd rfl (Or.inl rfl) (pe_call (ok_summed T) (hr.mono (by decide)) rfl T.summed.m T.summed.F.kp (bi_summed T) .nil pass0 (pa_cons (pv 6) pa_nil)))
    (pss_one (ps_if (PW.pt (pw_and (pt_cmpR op_gt (pe_callB (kcr_len (K := K) rfl) (by rfl) T.len (by decide +kernel) (pa_cons (pv 3) pa_nil)) pe_int (nomark _)) (pw_and1 (pt_cmpR (kop_eq (K := K) rfl hr.units) (pe_ix (kix (K := K) rfl) (pe_ix (kix (K := K) rfl) (pv 3) (pe_un un_neg pe_int) (fun _ _ => rfl)) pe_int (fun _ _ => rfl)) (pv 7) (nomark _))))) (pss_one (ps_set (i := 3) nd rfl (Or.inl rfl) (pe_lst (kpa_star (K := K) rfl (pe_slice (ksl_B (K := K) rfl) (pv 3) po_none (po_some (pe_un un_neg pe_int))) (pa_cons (pe_tup (pa_cons (pe_ix (kix (K := K) rfl) (pe_ix (kix (K := K) rfl) (pv 3) (pe_un un_neg pe_int) (fun _ _ => rfl)) pe_int (fun _ _ => rfl)) (pa_cons (pv 5) (pa_cons (pv 7) pa_nil)))) pa_nil))))) (pss_one (ps_set (i := 3) nd rfl (Or.inl rfl) (pe_lst (kpa_star (K := K) rfl (pv 3) (pa_cons (pe_tup (pa_cons (pv 4) (pa_cons (pv 5) (pa_cons (pv 7) pa_nil)))) pa_nil))))))))))
    (pss_one (ps_ret (pe_callTy (kcr_tuple (K := K) rfl) (by rfl) T.tuple (by decide +kernel) (pa_cons (pe_lc (own := [("part", 12)]) rfl nd (kpi_seq (K := K) rfl (pv 3)) (blkOk_by (N := nm_least_shares) (sc := defScope s_least_shares) (by decide +kernel)) (fun _ _ _ _ _ => (pg_name (i := 12) nd rfl (Or.inl rfl))) (fun _ _ _ _ _ => (pts_one (pt_cmpR (kop_ne (K := K) rfl hr.units) (pe_ix (kix (K := K) rfl) (pv 12) pe_int (fun _ _ => rfl)) (pe_glob rfl T.NOUGHT.m T.NOUGHT.r) (nomark _)))) (fun _ _ _ _ _ => (pv 12))) pa_nil)))))))), ?_⟩
  exact ((sk_seq (sk_set (gk_lc (ik_seq gk_var) (gt_tup (gts_cons gt_name (gts_cons gt_name (gts_cons gt_name gts_nil)))) tk_yes (gk_tup (ak_cons (gk_call (ak_cons gk_var ak_nil)) (ak_cons (gk_call (ak_cons gk_var ak_nil)) (ak_cons (gk_call (ak_cons gk_var ak_nil)) ak_nil)))) (by decide)))
    (sk_seq (sk_set (gk_call (ak_cons (gk_lc2 (ik_seq gk_var) (gt_tup (gts_cons gt_name (gts_cons gt_name (gts_cons gt_name gts_nil)))) tk_yes (ik_seq (gk_tup (ak_cons gk_var (ak_cons gk_var ak_nil)))) gt_name tk_yes gk_var (by decide) (by decide) (by decide)) ak_nil)))
    (sk_seq (sk_set (gk_lst ak_nil))
    (sk_seq (sk_for (ik_zipA (ak_cons gk_var (ak_cons (gk_sl sd_B gk_var (pk_some gk_int) pk_none) ak_nil))) (gt_tup (gts_cons gt_name (gts_cons gt_name gts_nil))) ((sk_seq (sk_set (gk_lc (ik_seq gk_var) (gt_tup (gts_cons gt_name (gts_cons gt_name (gts_cons gt_name gts_nil)))) (tk_and (tk_not (tk_truK (gk_call (ak_cons gk_var (ak_cons gk_var ak_nil))))) (tk_not (tk_truK (gk_call (ak_cons gk_var (ak_cons gk_var ak_nil)))))) gk_var (by decide)))
    (sk_seq (sk_set (gk_call (ak_cons gk_var ak_nil)))
    (sk_if (tk_and (tk_test (gk_op od_gt (gk_cb cd_len (ak_cons gk_var ak_nil)) gk_int)) (tk_test (gk_op od_eq (gk_op od_ix (gk_op od_ix gk_var (gk_un ud_neg gk_int)) gk_int) gk_var))) (sk_set (gk_lst (ak_star (gk_sl sd_B gk_var pk_none (pk_some (gk_un ud_neg gk_int))) (ak_cons (gk_tup (ak_cons (gk_op od_ix (gk_op od_ix gk_var (gk_un ud_neg gk_int)) gk_int) (ak_cons gk_var (ak_cons gk_var ak_nil)))) ak_nil)))) (sk_set (gk_lst (ak_star gk_var (ak_cons (gk_tup (ak_cons gk_var (ak_cons gk_var (ak_cons gk_var ak_nil)))) ak_nil))))))) : SOk K _ b_least_shares_1))
    (sk_ret (gk_cb cd_tuple (ak_cons (gk_lc (ik_seq gk_var) gt_name (tk_test (gk_op od_ne (gk_op od_ix gk_var gk_int) (gk_c T.NOUGHT.d))) gk_var (by decide)) ak_nil))))))) : SOk K _ b_least_shares)
theorem sc_least_weights : FnScope nm_least_weights pm_least_weights (defScope s_least_weights) := ⟨rfl, rfl, rfl, by decide +kernel, rfl, by decide +kernel, by decide +kernel⟩
theorem bi_least_weights (T : Txt K mg) : Binds K T.least_weights.fd pm_least_weights [] := T.least_weights.F.binds fun _ _ _ _ _ _ us hl => by obtain ⟨_, rfl⟩ := len1 hl; rfl
theorem ok_least_weights (T : Txt K mg) : FnOk P w K mg base CX0 5 T.least_weights.f T.least_weights.fd pm_least_weights (spF K r_least_weights) := by
  have nd := sc_least_weights.nd
  refine data_F T.least_weights.F sc_least_weights fun cdv A outer s H E hr => ?_
  refine ⟨_, (pss_cons (ps_setLc (i := 1) (own := [("point", 3), ("weight", 4)]) rfl nd rfl rfl (sw_true rfl rfl rfl (by decide +kernel)) (kpi_seq (K := K) rfl (pv 0)) (blkOk_by (N := nm_least_weights) (sc := defScope s_least_weights) (by decide +kernel)) (fun _ _ _ _ _ => (kpg_tup (K := K) (n := 2) rfl rfl (pgs_cons (pg_name (i := 3) nd rfl (Or.inl rfl)) (pgs_cons (pg_name (i := 4) nd rfl (Or.inl rfl)) pgs_nil)))) (fun _ _ _ _ _ => pts_nil) (fun _ _ _ _ _ => (pe_tup (pa_cons (pe_call (ok_value_of T) (hr.mono (by decide)) rfl T.value_of.m T.value_of.F.kp (bi_value_of T) .nil pass0 (pa_cons (pv 3) pa_nil)) (pa_cons (pe_call (ok_value_of T) (hr.mono (by decide)) rfl T.value_of.m T.value_of.F.kp (bi_value_of T) .nil pass0 (pa_cons (pv 4) pa_nil)) pa_nil)))))
    (pss_cons (ps_set (i := 2) nd rfl (Or.inl rfl) (pe_lst pa_nil))
    (pss_cons (ps_for PassesOwn.never rfl (kpi_seq (K := K) rfl (pe_call (ok_ascending T) (hr.mono (by decide)) rfl T.ascending.m T.ascending.F.kp (bi_ascending T) .nil pass0 (pa_cons (pe_lc (own := [("point", 3), ("weight", 4)]) rfl nd (kpi_seq (K := K) rfl (pv 1)) (blkOk_by (N := nm_least_weights) (sc := defScope s_least_weights) (by decide +kernel)) (fun _ _ _ _ _ => (kpg_tup (K := K) (n := 2) rfl rfl (pgs_cons (pg_name (i := 3) nd rfl (Or.inl rfl)) (pgs_cons (pg_name (i := 4) nd rfl (Or.inl rfl)) pgs_nil)))) (fun _ _ _ _ _ => pts_nil) (fun _ _ _ _ _ => (pv 3))) pa_nil))) (pg_name (i := 3) nd rfl (Or.inr rfl)) (pss_one (ps_expr (kpe_app (K := K) rfl (pv 2) (pe_tup (pa_cons (pv 3) (pa_cons (pe_call (ok_summed T) (hr.mono (by decide)) rfl T.summed.m T.summed.F.kp (bi_summed T) .nil pass0 (pa_cons (pe_lc (own := [("place", 5), ("weight", 4)]) rfl nd (kpi_seq (K := K) rfl (pv 1)) (blkOk_by (N := nm_least_weights) (sc := defScope s_least_weights) (by decide +kernel)) (fun _ _ _ _ _ => (kpg_tup (K := K) (n := 2) rfl rfl (pgs_cons (pg_name (i := 5) nd rfl (Or.inl rfl)) (pgs_cons (pg_name (i := 4) nd rfl (Or.inl rfl)) pgs_nil)))) (fun _ _ _ _ _ => (pts_one (pt_cmpR (kop_eq (K := K) rfl hr.units) (pv 5) (pv 3) (nomark _)))) (fun _ _ _ _ _ => (pv 4))) pa_nil)) pa_nil)))))))
    (pss_one (ps_ret (pe_callTy (kcr_tuple (K := K) rfl) (by rfl) T.tuple (by decide +kernel) (pa_cons (pe_lc (own := [("pair", 6)]) rfl nd (kpi_seq (K := K) rfl (pv 2)) (blkOk_by (N := nm_least_weights) (sc := defScope s_least_weights) (by decide +kernel)) (fun _ _ _ _ _ => (pg_name (i := 6) nd rfl (Or.inl rfl))) (fun _ _ _ _ _ => (pts_one (pt_cmpR (kop_ne (K := K) rfl hr.units) (pe_ix (kix (K := K) rfl) (pv 6) pe_int (fun _ _ => rfl)) (pe_glob rfl T.NOUGHT.m T.NOUGHT.r) (nomark _)))) (fun _ _ _ _ _ => (pv 6))) pa_nil))))))), ?_⟩
  exact ((sk_seq (sk_set (gk_lc (ik_seq gk_var) (gt_tup (gts_cons gt_name (gts_cons gt_name gts_nil))) tk_yes (gk_tup (ak_cons (gk_call (ak_cons gk_var ak_nil)) (ak_cons (gk_call (ak_cons gk_var ak_nil)) ak_nil))) (by decide)))
    (sk_seq (sk_set (gk_lst ak_nil))
    (sk_seq (sk_for (ik_seq (gk_call (ak_cons (gk_lc (ik_seq gk_var) (gt_tup (gts_cons gt_name (gts_cons gt_name gts_nil))) tk_yes gk_var (by decide)) ak_nil))) gt_name ((sk_app (gk_tup (ak_cons gk_var (ak_cons (gk_call (ak_cons (gk_lc (ik_seq gk_var) (gt_tup (gts_cons gt_name (gts_cons gt_name gts_nil))) (tk_test (gk_op od_eq gk_var gk_var)) gk_var (by decide)) ak_nil)) ak_nil)))) : SOk K _ b_least_weights_1))
    (sk_ret (gk_cb cd_tuple (ak_cons (gk_lc (ik_seq gk_var) gt_name (tk_test (gk_op od_ne (gk_op od_ix gk_var gk_int) (gk_c T.NOUGHT.d))) gk_var (by decide)) ak_nil)))))) : SOk K _ b_least_weights)
theorem sc_need_stretch : FnScope nm_need_stretch pm_need_stretch (defScope s_need_stretch) := ⟨rfl, rfl, rfl, by decide +kernel, rfl, by decide +kernel, by decide +kernel⟩
theorem bi_need_stretch (T : Txt K mg) : Binds K T.need_stretch.fd pm_need_stretch [] := T.need_stretch.F.binds fun _ _ _ _ _ _ us hl => by obtain ⟨_, _, rfl⟩ := len2 hl; rfl
theorem ok_need_stretch (T : Txt K mg) : FnOk P w K mg base CX0 4 T.need_stretch.f T.need_stretch.fd pm_need_stretch (spF K r_need_stretch) := by
  have nd := sc_need_stretch.nd
  refine data_F T.need_stretch.F sc_need_stretch fun cdv A outer s H E hr => ?_
  refine ⟨_, (pss_cons (ps_if (pt_not (kpt_tru (K := K) rfl (pe_call (ok_is_value T) (hr.mono (by decide)) rfl T.is_value.m T.is_value.F.kp (bi_is_value T) .nil pass0 (pa_cons (pv 0) pa_nil)) (by intro _; rfl))) (pss_one ps_never) pss_nil)
    (pss_cons (ps_if (PW.pt (pw_or (pt_not (kpt_tru (K := K) rfl (pe_call (ok_is_value T) (hr.mono (by decide)) rfl T.is_value.m T.is_value.F.kp (bi_is_value T) .nil pass0 (pa_cons (pv 1) pa_nil)) (by intro _; rfl))) (pw_or1 (pt_not (kpt_tru (K := K) rfl (pe_call (ok_is_less T) (hr.mono (by decide)) rfl T.is_less.m T.is_less.F.kp (bi_is_less T) .nil pass0 (pa_cons (pe_call (ok_value_of T) (hr.mono (by decide)) rfl T.value_of.m T.value_of.F.kp (bi_value_of T) .nil pass0 (pa_cons (pv 0) pa_nil)) (pa_cons (pe_call (ok_value_of T) (hr.mono (by decide)) rfl T.value_of.m T.value_of.F.kp (bi_value_of T) .nil pass0 (pa_cons (pv 1) pa_nil)) pa_nil))) (by intro _; rfl)))))) (pss_one ps_never) pss_nil)
    (pss_one (ps_ret (pe_tup (pa_cons (pe_call (ok_value_of T) (hr.mono (by decide)) rfl T.value_of.m T.value_of.F.kp (bi_value_of T) .nil pass0 (pa_cons (pv 0) pa_nil)) (pa_cons (pe_call (ok_value_of T) (hr.mono (by decide)) rfl T.value_of.m T.value_of.F.kp (bi_value_of T) .nil pass0 (pa_cons (pv 1) pa_nil)) pa_nil))))))), ?_⟩
  exact ((sk_seq (sk_if (tk_not (tk_truK (gk_call (ak_cons gk_var ak_nil)))) sk_never sk_next)
    (sk_seq (sk_if (tk_or (tk_not (tk_truK (gk_call (ak_cons gk_var ak_nil)))) (tk_not (tk_truK (gk_call (ak_cons (gk_call (ak_cons gk_var ak_nil)) (ak_cons (gk_call (ak_cons gk_var ak_nil)) ak_nil)))))) sk_never sk_next)
    (sk_ret (gk_tup (ak_cons (gk_call (ak_cons gk_var ak_nil)) (ak_cons (gk_call (ak_cons gk_var ak_nil)) ak_nil)))))) : SOk K _ b_need_stretch)
theorem okE_need_stretch (T : Txt K mg) (hP : HPs T P) : FnOk P w K mg base (L2.CX P w) 4 T.need_stretch.f T.need_stretch.fd pm_need_stretch (spE K e_need_stretch) := by
  have nd := sc_need_stretch.nd
  refine data_E T.need_stretch.F sc_need_stretch fun cdv A outer s H E hr => ?_
  refine ⟨_, fun W tk => (pss_cons (ps_if (pt_not (kpt_tru (K := K) rfl (pe_call (ok_is_value T) (hr.mono (by decide)) rfl T.is_value.m T.is_value.F.kp (bi_is_value T) .nil pass0 (pa_cons (pv 0) pa_nil)) (by intro _; rfl))) (pss_one (ps_rai T.X0 (by rfl) (by decide) (by decide) hP.h0 T.su rfl tk (hr.mono (by decide)) (by rfl) (pa_cons pe_str pa_nil))) pss_nil)
    (pss_cons (ps_if (PW.pt (pw_or (pt_not (kpt_tru (K := K) rfl (pe_call (ok_is_value T) (hr.mono (by decide)) rfl T.is_value.m T.is_value.F.kp (bi_is_value T) .nil pass0 (pa_cons (pv 1) pa_nil)) (by intro _; rfl))) (pw_or1 (pt_not (kpt_tru (K := K) rfl (pe_call (ok_is_less T) (hr.mono (by decide)) rfl T.is_less.m T.is_less.F.kp (bi_is_less T) .nil pass0 (pa_cons (pe_call (ok_value_of T) (hr.mono (by decide)) rfl T.value_of.m T.value_of.F.kp (bi_value_of T) .nil pass0 (pa_cons (pv 0) pa_nil)) (pa_cons (pe_call (ok_value_of T) (hr.mono (by decide)) rfl T.value_of.m T.value_of.F.kp (bi_value_of T) .nil pass0 (pa_cons (pv 1) pa_nil)) pa_nil))) (by intro _; rfl)))))) (pss_one (ps_rai T.X0 (by rfl) (by decide) (by decide) hP.h0 T.su rfl tk (hr.mono (by decide)) (by rfl) (pa_cons pe_str pa_nil))) pss_nil)
    pss_never)), ?_⟩
  exact ((es_seq (es_if (fun W => (tk_not (tk_truK (gk_call (ak_cons gk_var ak_nil))))) (es_raise T.X0.at_ (fun W => gk_str)) es_none) (fun W => (sk_if (tk_not (tk_truK (gk_call (ak_cons gk_var ak_nil)))) sk_nev sk_next))
    (es_seq (es_if (fun W => (tk_or (tk_not (tk_truK (gk_call (ak_cons gk_var ak_nil)))) (tk_not (tk_truK (gk_call (ak_cons (gk_call (ak_cons gk_var ak_nil)) (ak_cons (gk_call (ak_cons gk_var ak_nil)) ak_nil))))))) (es_raise T.X0.at_ (fun W => gk_str)) es_none) (fun W => (sk_if (tk_or (tk_not (tk_truK (gk_call (ak_cons gk_var ak_nil)))) (tk_not (tk_truK (gk_call (ak_cons (gk_call (ak_cons gk_var ak_nil)) (ak_cons (gk_call (ak_cons gk_var ak_nil)) ak_nil)))))) sk_nev sk_next))
    es_none)) : ES K _ eb_need_stretch)
theorem okZ_need_stretch (T : Txt K mg) (hP : HPs T P) : FnOk P w K mg base (L2.CX P w) 4 T.need_stretch.f T.need_stretch.fd pm_need_stretch (spZ K r_need_stretch e_need_stretch) := fnOk_or (ok_need_stretch T) (okE_need_stretch T hP) (by decide) (by decide)
theorem sc_Rule_init : FnScope nm_Rule_init pm_Rule_init (defScope s_Rule_init) := ⟨rfl, rfl, rfl, by decide +kernel, rfl, by decide +kernel, by decide +kernel⟩
theorem bi_Rule_init_3 (T : Txt K mg) : ∃ ds, Vals (T.Rule_init.dvs.drop 0) ds ∧ Binds K T.Rule_init.fd pm_Rule_init ds := by
  have hl : T.Rule_init.dvs.length = 2 := (T.Rule_init.d fun _ => none).len
  refine T.Rule_init.F.binds1 3 0 (fun z => by rw [z] at hl; cases hl) (by rw [hl]; rfl) fun _ _ _ _ _ _ _ us its h1 h2 => ?_
  rw [hl] at h2
  match us, h1, its, h2 with | [_, _, _], _, [_, _], _ => exact ⟨_, rfl, rfl⟩
theorem bi_Rule_init_4 (T : Txt K mg) : ∃ ds, Vals (T.Rule_init.dvs.drop 1) ds ∧ Binds K T.Rule_init.fd pm_Rule_init ds := by
  have hl : T.Rule_init.dvs.length = 2 := (T.Rule_init.d fun _ => none).len
  refine T.Rule_init.F.binds1 4 1 (fun z => by rw [z] at hl; cases hl) (by rw [hl]; rfl) fun _ _ _ _ _ _ _ us its h1 h2 => ?_
  rw [hl] at h2
  match us, h1, its, h2 with | [_, _, _, _], _, [_, _], _ => exact ⟨_, rfl, rfl⟩
theorem bi_Rule_init_5 (T : Txt K mg) : ∃ ds, Vals (T.Rule_init.dvs.drop 2) ds ∧ Binds K T.Rule_init.fd pm_Rule_init ds := by
  have hl : T.Rule_init.dvs.length = 2 := (T.Rule_init.d fun _ => none).len
  refine T.Rule_init.F.binds1 5 2 (fun z => by rw [z] at hl; cases hl) (by rw [hl]; rfl) fun _ _ _ _ _ _ _ us its h1 h2 => ?_
  rw [hl] at h2
  match us, h1, its, h2 with | [_, _, _, _, _], _, [_, _], _ => exact ⟨_, rfl, rfl⟩
theorem ok_Rule_init (T : Txt K mg) : FnOk P w K mg base CX0 6 T.Rule_init.f T.Rule_init.fd pm_Rule_init (spB K r_Rule_init) := by
  have nd := sc_Rule_init.nd
  refine data_BD T.Rule_init.F sc_Rule_init fun cdv A outer s H E hr => ?_
  refine ⟨_, (pss_cons (ps_asg (pe_call (ok_need_stretch T) (hr.mono (by decide)) rfl T.need_stretch.m T.need_stretch.F.kp (bi_need_stretch T) .nil pass0 (pa_cons (pv 1) (pa_cons (pv 2) pa_nil))) (kpg_tup (K := K) (n := 2) rfl rfl (pgs_cons (kpg_fld (K := K) rfl (pv 0)) (pgs_cons (kpg_fld (K := K) rfl (pv 0)) pgs_nil))))
    (pss_cons (ps_if (PW.pt (pw_or (pt_not (kpt_tru (K := K) rfl (pe_call (ok_is_sequence T) (hr.mono (by decide)) rfl T.is_sequence.m T.is_sequence.F.kp (bi_is_sequence T) .nil pass0 (pa_cons (pv 3) pa_nil)) (by intro _; rfl))) (pw_or1 (pt_not (kpt_tru (K := K) rfl (pe_callB (kcr_all (K := K) rfl rfl) (by rfl) T.all (by decide +kernel) (pa_cons (pe_lc (own := [("one", 5)]) rfl nd (kpi_seq (K := K) rfl (pv 3)) (blkOk_by (N := nm_Rule_init) (sc := defScope s_Rule_init) (by decide +kernel)) (fun _ _ _ _ _ => (pg_name (i := 5) nd rfl (Or.inl rfl))) (fun _ _ _ _ _ => pts_nil) (fun _ _ _ _ _ => (pe_call (ok_is_weight T) (hr.mono (by decide)) rfl T.is_weight.m T.is_weight.F.kp (bi_is_weight T) .nil pass0 (pa_cons (pv 5) (pa_cons (kpe_fld (K := K) rfl (pv 0) rfl) (pa_cons (kpe_fld (K := K) rfl (pv 0) rfl) pa_nil)))))) pa_nil)) (by intro _; rfl)))))) (pss_one ps_never) pss_nil)
    (pss_cons (ps_if (PW.pt (pw_or (pt_not (kpt_tru (K := K) rfl (pe_call (ok_is_sequence T) (hr.mono (by decide)) rfl T.is_sequence.m T.is_sequence.F.kp (bi_is_sequence T) .nil pass0 (pa_cons (pv 4) pa_nil)) (by intro _; rfl))) (pw_or1 (pt_not (kpt_tru (K := K) rfl (pe_callB (kcr_all (K := K) rfl rfl) (by rfl) T.all (by decide +kernel) (pa_cons (pe_lc (own := [("one", 5)]) rfl nd (kpi_seq (K := K) rfl (pv 4)) (blkOk_by (N := nm_Rule_init) (sc := defScope s_Rule_init) (by decide +kernel)) (fun _ _ _ _ _ => (pg_name (i := 5) nd rfl (Or.inl rfl))) (fun _ _ _ _ _ => pts_nil) (fun _ _ _ _ _ => (pe_call (ok_is_share T) (hr.mono (by decide)) rfl T.is_share.m T.is_share.F.kp (bi_is_share T) .nil pass0 (pa_cons (pv 5) (pa_cons (kpe_fld (K := K) rfl (pv 0) rfl) (pa_cons (kpe_fld (K := K) rfl (pv 0) rfl) pa_nil)))))) pa_nil)) (by intro _; rfl)))))) (pss_one ps_never) pss_nil)
    (pss_cons (kps_fld (K := K) rfl (pv 0) (pe_call (ok_least_weights T) (hr.mono (by decide)) rfl T.least_weights.m T.least_weights.F.kp (bi_least_weights T) .nil pass0 (pa_cons (pv 3) pa_nil)) rfl)
    (pss_one (kps_fld (K := K) rfl (pv 0) (pe_call (ok_least_shares T) (hr.mono (by decide)) rfl T.least_shares.m T.least_shares.F.kp (bi_least_shares T) .nil pass0 (pa_cons (pv 4) pa_nil)) rfl)))))), ?_⟩
  exact ((sk_seq (sk_asgF T.Rule rfl rfl (gk_call (ak_cons gk_var (ak_cons gk_var ak_nil))))
    (sk_seq (sk_if (tk_or (tk_not (tk_truK (gk_call (ak_cons gk_var ak_nil)))) (tk_not (tk_truK (gk_cb cd_all (ak_cons (gk_lc (ik_seq gk_var) gt_name tk_yes (gk_call (ak_cons gk_var (ak_cons (gk_fldv T.Rule rfl) (ak_cons (gk_fldv T.Rule rfl) ak_nil)))) (by decide)) ak_nil))))) sk_never sk_next)
    (sk_seq (sk_if (tk_or (tk_not (tk_truK (gk_call (ak_cons gk_var ak_nil)))) (tk_not (tk_truK (gk_cb cd_all (ak_cons (gk_lc (ik_seq gk_var) gt_name tk_yes (gk_call (ak_cons gk_var (ak_cons (gk_fldv T.Rule rfl) (ak_cons (gk_fldv T.Rule rfl) ak_nil)))) (by decide)) ak_nil))))) sk_never sk_next)
    (sk_seq (sk_setf T.Rule rfl (gk_call (ak_cons gk_var ak_nil)))
    (sk_setf T.Rule rfl (gk_call (ak_cons gk_var ak_nil))))))) : SOk K _ b_Rule_init)
theorem sc_w_choose : FnScope nm_w_choose pm_w_choose (defScope s_w_choose) := ⟨rfl, rfl, rfl, by decide +kernel, rfl, by decide +kernel, by decide +kernel⟩
theorem bi_w_choose (T : Txt K mg) : Binds K T.w_choose.fd pm_w_choose [] := T.w_choose.F.binds fun _ _ _ _ _ _ us hl => by obtain ⟨_, _, rfl⟩ := len2 hl; rfl
theorem ok_w_choose (T : Txt K mg) : FnOk P w K mg base CX0 1 T.w_choose.f T.w_choose.fd pm_w_choose (spB K r_w_choose) := by
  have nd := sc_w_choose.nd
  refine data_B T.w_choose.F sc_w_choose fun cdv A outer s H E hr => ?_
  refine ⟨_, (pss_cons (ps_if (pt_cmpR op_gt (pe_ix (kix (K := K) rfl) (pv 0) pe_int (fun _ _ => rfl)) pe_int (nomark _)) (pss_cons (ps_set (i := 2) nd rfl (Or.inl rfl) (pe_op op_modA (pe_callTy cr_int (by rfl) T.int (by decide +kernel) (pa_cons (pe_ix (kix (K := K) rfl) (pv 0) pe_int (fun _ _ => rfl)) pa_nil)) (pv 1)))
    (pss_cons (ps_asg (pe_op op_fdivA (pe_ix (kix (K := K) rfl) (pv 0) pe_int (fun _ _ => rfl)) (pv 1)) (pg_sub (pv 0) pe_int set_list))
    (pss_one (ps_ret (pv 2))))) pss_nil)
    (pss_cons (ps_asg (pe_op (kop_addB (K := K) rfl) (pe_ix (kix (K := K) rfl) (pv 0) pe_int (fun _ _ => rfl)) pe_int) (pg_sub (pv 0) pe_int set_list))
    (pss_cons (ps_set (i := 3) nd rfl (Or.inl rfl) (pe_op op_modA (pe_callTy cr_int (by rfl) T.int (by decide +kernel) (pa_cons (pe_op op_mulA (pe_op (kop_addB (K := K) rfl) (pe_ix (kix (K := K) rfl) (pv 0) pe_int (fun _ _ => rfl)) (pe_op op_mulA pe_int (pe_ix (kix (K := K) rfl) (pv 0) pe_int (fun _ _ => rfl)))) pe_int) pa_nil)) pe_int))
    (pss_cons (ps_asg (pe_op (kop_addB (K := K) rfl) (pe_op op_modA (pe_callTy cr_int (by rfl) T.int (by decide +kernel) (pa_cons (pe_op (kop_addB (K := K) rfl) (pe_op op_mulA (pv 3) pe_int) pe_int) pa_nil)) pe_int) pe_int) (pg_sub (pv 0) pe_int set_list))
    (pss_one (ps_ret (pe_op op_modA (pe_callTy cr_int (by rfl) T.int (by decide +kernel) (pa_cons (pe_op op_fdivA (pe_op (kop_addB (K := K) rfl) (pe_op op_mulA (pv 3) pe_int) (pe_ix (kix (K := K) rfl) (pv 0) pe_int (fun _ _ => rfl))) pe_int) pa_nil)) (pv 1)))))))), ?_⟩
  exact ((sk_seq (sk_if (tk_test (gk_op od_gt (gk_by (gk_ixv gk_int) (gk_op od_ix gk_var gk_int)) gk_int)) (sk_seq (sk_set (gk_op od_mod (gk_cb cd_int (ak_cons (gk_by (gk_ixv gk_int) (gk_op od_ix gk_var gk_int)) ak_nil)) gk_var))
    (sk_seq (sk_put (gk_op od_fdiv (gk_by (gk_ixv gk_int) (gk_op od_ix gk_var gk_int)) gk_var) gk_int)
    (sk_ret gk_mv))) sk_next)
    (sk_seq (sk_put (gk_op od_addB (gk_by (gk_ixv gk_int) (gk_op od_ix gk_var gk_int)) gk_int) gk_int)
    (sk_seq (sk_set (gk_op od_mod (gk_cb cd_int (ak_cons (gk_op od_mul (gk_op od_addB (gk_by (gk_ixv gk_int) (gk_op od_ix gk_var gk_int)) (gk_op od_mul gk_int (gk_by (gk_ixv gk_int) (gk_op od_ix gk_var gk_int)))) gk_int) ak_nil)) gk_int))
    (sk_seq (sk_put (gk_op od_addB (gk_op od_mod (gk_cb cd_int (ak_cons (gk_op od_addB (gk_op od_mul gk_var gk_int) gk_int) ak_nil)) gk_int) gk_int) gk_int)
    (sk_ret (gk_op od_mod (gk_cb cd_int (ak_cons (gk_op od_fdiv (gk_op od_addB (gk_op od_mul gk_var gk_int) (gk_by (gk_ixv gk_int) (gk_op od_ix gk_var gk_int))) gk_int) ak_nil)) gk_var)))))) : SOk K _ b_w_choose)
theorem sc_w_one_of : FnScope nm_w_one_of pm_w_one_of (defScope s_w_one_of) := ⟨rfl, rfl, rfl, by decide +kernel, rfl, by decide +kernel, by decide +kernel⟩
theorem bi_w_one_of (T : Txt K mg) : Binds K T.w_one_of.fd pm_w_one_of [] := T.w_one_of.F.binds fun _ _ _ _ _ _ us hl => by obtain ⟨_, _, rfl⟩ := len2 hl; rfl
theorem ok_w_one_of (T : Txt K mg) : FnOk P w K mg base CX0 2 T.w_one_of.f T.w_one_of.fd pm_w_one_of (spB K r_w_one_of) := by
  have nd := sc_w_one_of.nd
  refine data_B T.w_one_of.F sc_w_one_of fun cdv A outer s H E hr => ?_
  refine ⟨_, (pss_one (ps_ret (pe_ix (kix (K := K) rfl) (pv 1) (pe_call (ok_w_choose T) (hr.mono (by decide)) rfl T.w_choose.m T.w_choose.F.kp (bi_w_choose T) .nil pass0 (pa_cons (pv 0) (pa_cons (pe_callB (kcr_len (K := K) rfl) (by rfl) T.len (by decide +kernel) (pa_cons (pv 1) pa_nil)) pa_nil))) (fun _ _ => rfl)))), ?_⟩
  exact ((sk_ret (gk_op od_ix gk_var (gk_callB (ak_cons (gk_cb cd_len (ak_cons gk_var ak_nil)) ak_nil)))) : SOk K _ b_w_one_of)
theorem sc_w_anything : FnScope nm_w_anything pm_w_anything (defScope s_w_anything) := ⟨rfl, rfl, rfl, by decide +kernel, rfl, by decide +kernel, by decide +kernel⟩
theorem bi_w_anything (T : Txt K mg) : Binds K T.w_anything.fd pm_w_anything [] := T.w_anything.F.binds fun _ _ _ _ _ _ us hl => by obtain ⟨_, _, rfl⟩ := len2 hl; rfl
theorem ok_w_anything_z (T : Txt K mg) : FnOk P w K mg base CX0 1 T.w_anything.f T.w_anything.fd pm_w_anything (spB K r_w_anything_z) := ⟨fun vs H Q E q => (by obtain ⟨_, _, _, _, _, _, _, _, _, _, _, _, _, _, e, _⟩ := q; cases e), fun A outer s H args us vs Q E hr e0 hb r q => (by obtain ⟨_, _, _, _, _, _, _, _, _, _, _, _, _, _, e, _⟩ := q; cases e)⟩
theorem ok_w_anything_0 (T : Txt K mg) : FnOk P w K mg base CX0 3 T.w_anything.f T.w_anything.fd pm_w_anything (spB K r_w_anything_0) := by
  have nd := sc_w_anything.nd
  refine data_B T.w_anything.F sc_w_anything fun cdv A outer s H E hr => ?_
  refine ⟨_, (pss_cons (ps_set (i := 2) nd rfl (Or.inl rfl) (pe_call (ok_w_choose T) (hr.mono (by decide)) rfl T.w_choose.m T.w_choose.F.kp (bi_w_choose T) .nil pass0 (pa_cons (pv 0) (pa_cons pe_int pa_nil))))
    (pss_cons (ps_if (PW.pt (pw_or (pt_cmpR op_lt (pv 1) pe_int (nomark _)) (pw_or1 (pt_cmpR op_lt (pv 2) pe_int (nomark _))))) (pss_cons (ps_set (i := 3) nd rfl (Or.inl rfl) (pe_lst (pa_cons pe_non (pa_cons pe_bl (pa_cons pe_bl (pa_cons pe_int (pa_cons pe_int (pa_cons (pe_un un_neg pe_int) (pa_cons (pe_op op_powA pe_int pe_int) (pa_cons pe_str (pa_cons pe_str (pa_cons pe_str (pa_cons pe_str (pa_cons (pe_tup (pa_cons pe_int (pa_cons pe_int pa_nil))) (pa_cons (pe_tup (pa_cons pe_int (pa_cons pe_int pa_nil))) (pa_cons (pe_tup (pa_cons pe_int (pa_cons pe_int pa_nil))) (pa_cons (pe_tup pa_nil) (pa_cons (pe_lst pa_nil) pa_nil))))))))))))))))))
    (pss_one (ps_ret (pe_call (ok_w_one_of T) (hr.mono (by decide)) rfl T.w_one_of.m T.w_one_of.F.kp (bi_w_one_of T) .nil pass0 (pa_cons (pv 0) (pa_cons (pv 3) pa_nil)))))) pss_nil)
    (pss_cons (ps_setLc (i := 4) (own := [("_law_turn", 5)]) rfl nd rfl rfl (sw_true rfl rfl rfl (by decide +kernel)) (pi_range1 rfl T.range (pa_cons (pe_call (ok_w_choose T) (hr.mono (by decide)) rfl T.w_choose.m T.w_choose.F.kp (bi_w_choose T) .nil pass0 (pa_cons (pv 0) (pa_cons pe_int pa_nil))) pa_nil)) (blkOk_by (N := nm_w_anything) (sc := defScope s_w_anything) (by decide +kernel)) (fun _ _ _ _ _ => (pg_name (i := 5) nd rfl (Or.inl rfl))) (fun _ _ _ _ _ => pts_nil) (fun _ _ _ _ _ => (pe_call (ok_w_anything_z T) (hr.mono (by decide)) rfl T.w_anything.m T.w_anything.F.kp (bi_w_anything T) .nil pass0 (pa_cons (pv 0) (pa_cons (pe_op op_subA (pv 1) pe_int) pa_nil)))))
    (pss_one (ps_ret (pe_ifExp (pt_cmpR op_lt (pv 2) pe_int (nomark _)) (pe_callTy (kcr_tuple (K := K) rfl) (by rfl) T.tuple (by decide +kernel) (pa_cons (pv 4) pa_nil)) (pv 4))))))), ?_⟩
  exact ((sk_seq (sk_set (gk_callB (ak_cons gk_int ak_nil)))
    (sk_seq (sk_if (tk_or (tk_test (gk_op od_lt gk_var gk_int)) (tk_test (gk_op od_lt gk_var gk_int))) (sk_seq (sk_set (gk_lst (ak_cons gk_non (ak_cons gk_bl (ak_cons gk_bl (ak_cons gk_int (ak_cons gk_int (ak_cons (gk_un ud_neg gk_int) (ak_cons (gk_op od_pow gk_int gk_int) (ak_cons gk_str (ak_cons gk_str (ak_cons gk_str (ak_cons gk_str (ak_cons (gk_tup (ak_cons gk_int (ak_cons gk_int ak_nil))) (ak_cons (gk_tup (ak_cons gk_int (ak_cons gk_int ak_nil))) (ak_cons (gk_tup (ak_cons gk_int (ak_cons gk_int ak_nil))) (ak_cons (gk_tup ak_nil) (ak_cons (gk_lst ak_nil) ak_nil))))))))))))))))))
    (sk_ret (gk_callB (ak_cons gk_var ak_nil)))) sk_next)
    (sk_seq (sk_set (gk_lc (ik_range1 (ak_cons (gk_callB (ak_cons gk_int ak_nil)) ak_nil)) gt_name tk_yes (gk_callB (ak_cons (gk_op od_sub gk_var gk_int) ak_nil)) (by decide)))
    (sk_ret (gk_if (tk_test (gk_op od_lt gk_var gk_int)) (gk_cb cd_tuple (ak_cons gk_var ak_nil)) gk_var))))) : SOk K _ b_w_anything_0)
theorem ok_w_anything_1 (T : Txt K mg) : FnOk P w K mg base CX0 4 T.w_anything.f T.w_anything.fd pm_w_anything (spB K r_w_anything_1) := by
  have nd := sc_w_anything.nd
  refine data_B T.w_anything.F sc_w_anything fun cdv A outer s H E hr => ?_
  refine ⟨_, (pss_cons (ps_set (i := 2) nd rfl (Or.inl rfl) (pe_call (ok_w_choose T) (hr.mono (by decide)) rfl T.w_choose.m T.w_choose.F.kp (bi_w_choose T) .nil pass0 (pa_cons (pv 0) (pa_cons pe_int pa_nil))))
    (pss_cons (ps_if (PW.pt (pw_or (pt_cmpR op_lt (pv 1) pe_int (nomark _)) (pw_or1 (pt_cmpR op_lt (pv 2) pe_int (nomark _))))) (pss_cons (ps_set (i := 3) nd rfl (Or.inl rfl) (pe_lst (pa_cons pe_non (pa_cons pe_bl (pa_cons pe_bl (pa_cons pe_int (pa_cons pe_int (pa_cons (pe_un un_neg pe_int) (pa_cons (pe_op op_powA pe_int pe_int) (pa_cons pe_str (pa_cons pe_str (pa_cons pe_str (pa_cons pe_str (pa_cons (pe_tup (pa_cons pe_int (pa_cons pe_int pa_nil))) (pa_cons (pe_tup (pa_cons pe_int (pa_cons pe_int pa_nil))) (pa_cons (pe_tup (pa_cons pe_int (pa_cons pe_int pa_nil))) (pa_cons (pe_tup pa_nil) (pa_cons (pe_lst pa_nil) pa_nil))))))))))))))))))
    (pss_one (ps_ret (pe_call (ok_w_one_of T) (hr.mono (by decide)) rfl T.w_one_of.m T.w_one_of.F.kp (bi_w_one_of T) .nil pass0 (pa_cons (pv 0) (pa_cons (pv 3) pa_nil)))))) pss_nil)
    (pss_cons (ps_setLc (i := 4) (own := [("_law_turn", 5)]) rfl nd rfl rfl (sw_true rfl rfl rfl (by decide +kernel)) (pi_range1 rfl T.range (pa_cons (pe_call (ok_w_choose T) (hr.mono (by decide)) rfl T.w_choose.m T.w_choose.F.kp (bi_w_choose T) .nil pass0 (pa_cons (pv 0) (pa_cons pe_int pa_nil))) pa_nil)) (blkOk_by (N := nm_w_anything) (sc := defScope s_w_anything) (by decide +kernel)) (fun _ _ _ _ _ => (pg_name (i := 5) nd rfl (Or.inl rfl))) (fun _ _ _ _ _ => pts_nil) (fun _ _ _ _ _ => (pe_call (ok_w_anything_0 T) (hr.mono (by decide)) rfl T.w_anything.m T.w_anything.F.kp (bi_w_anything T) .nil pass0 (pa_cons (pv 0) (pa_cons (pe_op op_subA (pv 1) pe_int) pa_nil)))))
    (pss_one (ps_ret (pe_ifExp (pt_cmpR op_lt (pv 2) pe_int (nomark _)) (pe_callTy (kcr_tuple (K := K) rfl) (by rfl) T.tuple (by decide +kernel) (pa_cons (pv 4) pa_nil)) (pv 4))))))), ?_⟩
  exact ((sk_seq (sk_set (gk_callB (ak_cons gk_int ak_nil)))
    (sk_seq (sk_if (tk_or (tk_test (gk_op od_lt gk_var gk_int)) (tk_test (gk_op od_lt gk_var gk_int))) (sk_seq (sk_set (gk_lst (ak_cons gk_non (ak_cons gk_bl (ak_cons gk_bl (ak_cons gk_int (ak_cons gk_int (ak_cons (gk_un ud_neg gk_int) (ak_cons (gk_op od_pow gk_int gk_int) (ak_cons gk_str (ak_cons gk_str (ak_cons gk_str (ak_cons gk_str (ak_cons (gk_tup (ak_cons gk_int (ak_cons gk_int ak_nil))) (ak_cons (gk_tup (ak_cons gk_int (ak_cons gk_int ak_nil))) (ak_cons (gk_tup (ak_cons gk_int (ak_cons gk_int ak_nil))) (ak_cons (gk_tup ak_nil) (ak_cons (gk_lst ak_nil) ak_nil))))))))))))))))))
    (sk_ret (gk_callB (ak_cons gk_var ak_nil)))) sk_next)
    (sk_seq (sk_set (gk_lc (ik_range1 (ak_cons (gk_callB (ak_cons gk_int ak_nil)) ak_nil)) gt_name tk_yes (gk_callB (ak_cons (gk_op od_sub gk_var gk_int) ak_nil)) (by decide)))
    (sk_ret (gk_if (tk_test (gk_op od_lt gk_var gk_int)) (gk_cb cd_tuple (ak_cons gk_var ak_nil)) gk_var))))) : SOk K _ b_w_anything_1)
theorem ok_w_anything_2 (T : Txt K mg) : FnOk P w K mg base CX0 5 T.w_anything.f T.w_anything.fd pm_w_anything (spB K r_w_anything_2) := by
  have nd := sc_w_anything.nd
  refine data_B T.w_anything.F sc_w_anything fun cdv A outer s H E hr => ?_
  refine ⟨_, (pss_cons (ps_set (i := 2) nd rfl (Or.inl rfl) (pe_call (ok_w_choose T) (hr.mono (by decide)) rfl T.w_choose.m T.w_choose.F.kp (bi_w_choose T) .nil pass0 (pa_cons (pv 0) (pa_cons pe_int pa_nil))))
    (pss_cons (ps_if (PW.pt (pw_or (pt_cmpR op_lt (pv 1) pe_int (nomark _)) (pw_or1 (pt_cmpR op_lt (pv 2) pe_int (nomark _))))) (pss_cons (ps_set (i := 3) nd rfl (Or.inl rfl) (pe_lst (pa_cons pe_non (pa_cons pe_bl (pa_cons pe_bl (pa_cons pe_int (pa_cons pe_int (pa_cons (pe_un un_neg pe_int) (pa_cons (pe_op op_powA pe_int pe_int) (pa_cons pe_str (pa_cons pe_str (pa_cons pe_str (pa_cons pe_str (pa_cons (pe_tup (pa_cons pe_int (pa_cons pe_int pa_nil))) (pa_cons (pe_tup (pa_cons pe_int (pa_cons pe_int pa_nil))) (pa_cons (pe_tup (pa_cons pe_int (pa_cons pe_int pa_nil))) (pa_cons (pe_tup pa_nil) (pa_cons (pe_lst pa_nil) pa_nil))))))))))))))))))
    (pss_one (ps_ret (pe_call (ok_w_one_of T) (hr.mono (by decide)) rfl T.w_one_of.m T.w_one_of.F.kp (bi_w_one_of T) .nil pass0 (pa_cons (pv 0) (pa_cons (pv 3) pa_nil)))))) pss_nil)
    (pss_cons (ps_setLc (i := 4) (own := [("_law_turn", 5)]) rfl nd rfl rfl (sw_true rfl rfl rfl (by decide +kernel)) (pi_range1 rfl T.range (pa_cons (pe_call (ok_w_choose T) (hr.mono (by decide)) rfl T.w_choose.m T.w_choose.F.kp (bi_w_choose T) .nil pass0 (pa_cons (pv 0) (pa_cons pe_int pa_nil))) pa_nil)) (blkOk_by (N := nm_w_anything) (sc := defScope s_w_anything) (by decide +kernel)) (fun _ _ _ _ _ => (pg_name (i := 5) nd rfl (Or.inl rfl))) (fun _ _ _ _ _ => pts_nil) (fun _ _ _ _ _ => (pe_call (ok_w_anything_1 T) (hr.mono (by decide)) rfl T.w_anything.m T.w_anything.F.kp (bi_w_anything T) .nil pass0 (pa_cons (pv 0) (pa_cons (pe_op op_subA (pv 1) pe_int) pa_nil)))))
    (pss_one (ps_ret (pe_ifExp (pt_cmpR op_lt (pv 2) pe_int (nomark _)) (pe_callTy (kcr_tuple (K := K) rfl) (by rfl) T.tuple (by decide +kernel) (pa_cons (pv 4) pa_nil)) (pv 4))))))), ?_⟩
  exact ((sk_seq (sk_set (gk_callB (ak_cons gk_int ak_nil)))
    (sk_seq (sk_if (tk_or (tk_test (gk_op od_lt gk_var gk_int)) (tk_test (gk_op od_lt gk_var gk_int))) (sk_seq (sk_set (gk_lst (ak_cons gk_non (ak_cons gk_bl (ak_cons gk_bl (ak_cons gk_int (ak_cons gk_int (ak_cons (gk_un ud_neg gk_int) (ak_cons (gk_op od_pow gk_int gk_int) (ak_cons gk_str (ak_cons gk_str (ak_cons gk_str (ak_cons gk_str (ak_cons (gk_tup (ak_cons gk_int (ak_cons gk_int ak_nil))) (ak_cons (gk_tup (ak_cons gk_int (ak_cons gk_int ak_nil))) (ak_cons (gk_tup (ak_cons gk_int (ak_cons gk_int ak_nil))) (ak_cons (gk_tup ak_nil) (ak_cons (gk_lst ak_nil) ak_nil))))))))))))))))))
    (sk_ret (gk_callB (ak_cons gk_var ak_nil)))) sk_next)
    (sk_seq (sk_set (gk_lc (ik_range1 (ak_cons (gk_callB (ak_cons gk_int ak_nil)) ak_nil)) gt_name tk_yes (gk_callB (ak_cons (gk_op od_sub gk_var gk_int) ak_nil)) (by decide)))
    (sk_ret (gk_if (tk_test (gk_op od_lt gk_var gk_int)) (gk_cb cd_tuple (ak_cons gk_var ak_nil)) gk_var))))) : SOk K _ b_w_anything_2)
theorem ok_w_anything (T : Txt K mg) : FnOk P w K mg base CX0 6 T.w_anything.f T.w_anything.fd pm_w_anything (spB K r_w_anything) := by
  have nd := sc_w_anything.nd
  refine data_B T.w_anything.F sc_w_anything fun cdv A outer s H E hr => ?_
  refine ⟨_, (pss_cons (ps_set (i := 2) nd rfl (Or.inl rfl) (pe_call (ok_w_choose T) (hr.mono (by decide)) rfl T.w_choose.m T.w_choose.F.kp (bi_w_choose T) .nil pass0 (pa_cons (pv 0) (pa_cons pe_int pa_nil))))
    (pss_cons (ps_if (PW.pt (pw_or (pt_cmpR op_lt (pv 1) pe_int (nomark _)) (pw_or1 (pt_cmpR op_lt (pv 2) pe_int (nomark _))))) (pss_cons (ps_set (i := 3) nd rfl (Or.inl rfl) (pe_lst (pa_cons pe_non (pa_cons pe_bl (pa_cons pe_bl (pa_cons pe_int (pa_cons pe_int (pa_cons (pe_un un_neg pe_int) (pa_cons (pe_op op_powA pe_int pe_int) (pa_cons pe_str (pa_cons pe_str (pa_cons pe_str (pa_cons pe_str (pa_cons (pe_tup (pa_cons pe_int (pa_cons pe_int pa_nil))) (pa_cons (pe_tup (pa_cons pe_int (pa_cons pe_int pa_nil))) (pa_cons (pe_tup (pa_cons pe_int (pa_cons pe_int pa_nil))) (pa_cons (pe_tup pa_nil) (pa_cons (pe_lst pa_nil) pa_nil))))))))))))))))))
    (pss_one (ps_ret (pe_call (ok_w_one_of T) (hr.mono (by decide)) rfl T.w_one_of.m T.w_one_of.F.kp (bi_w_one_of T) .nil pass0 (pa_cons (pv 0) (pa_cons (pv 3) pa_nil)))))) pss_nil)
    (pss_cons (ps_setLc (i := 4) (own := [("_law_turn", 5)]) rfl nd rfl rfl (sw_true rfl rfl rfl (by decide +kernel)) (pi_range1 rfl T.range (pa_cons (pe_call (ok_w_choose T) (hr.mono (by decide)) rfl T.w_choose.m T.w_choose.F.kp (bi_w_choose T) .nil pass0 (pa_cons (pv 0) (pa_cons pe_int pa_nil))) pa_nil)) (blkOk_by (N := nm_w_anything) (sc := defScope s_w_anything) (by decide +kernel)) (fun _ _ _ _ _ => (pg_name (i := 5) nd rfl (Or.inl rfl))) (fun _ _ _ _ _ => pts_nil) (fun _ _ _ _ _ => (pe_call (ok_w_anything_2 T) (hr.mono (by decide)) rfl T.w_anything.m T.w_anything.F.kp (bi_w_anything T) .nil pass0 (pa_cons (pv 0) (pa_cons (pe_op op_subA (pv 1) pe_int) pa_nil)))))
    (pss_one (ps_ret (pe_ifExp (pt_cmpR op_lt (pv 2) pe_int (nomark _)) (pe_callTy (kcr_tuple (K := K) rfl) (by rfl) T.tuple (by decide +kernel) (pa_cons (pv 4) pa_nil)) (pv 4))))))), ?_⟩
  exact ((sk_seq (sk_set (gk_callB (ak_cons gk_int ak_nil)))
    (sk_seq (sk_if (tk_or (tk_test (gk_op od_lt gk_var gk_int)) (tk_test (gk_op od_lt gk_var gk_int))) (sk_seq (sk_set (gk_lst (ak_cons gk_non (ak_cons gk_bl (ak_cons gk_bl (ak_cons gk_int (ak_cons gk_int (ak_cons (gk_un ud_neg gk_int) (ak_cons (gk_op od_pow gk_int gk_int) (ak_cons gk_str (ak_cons gk_str (ak_cons gk_str (ak_cons gk_str (ak_cons (gk_tup (ak_cons gk_int (ak_cons gk_int ak_nil))) (ak_cons (gk_tup (ak_cons gk_int (ak_cons gk_int ak_nil))) (ak_cons (gk_tup (ak_cons gk_int (ak_cons gk_int ak_nil))) (ak_cons (gk_tup ak_nil) (ak_cons (gk_lst ak_nil) ak_nil))))))))))))))))))
    (sk_ret (gk_callB (ak_cons gk_var ak_nil)))) sk_next)
    (sk_seq (sk_set (gk_lc (ik_range1 (ak_cons (gk_callB (ak_cons gk_int ak_nil)) ak_nil)) gt_name tk_yes (gk_callB (ak_cons (gk_op od_sub gk_var gk_int) ak_nil)) (by decide)))
    (sk_ret (gk_if (tk_test (gk_op od_lt gk_var gk_int)) (gk_cb cd_tuple (ak_cons gk_var ak_nil)) gk_var))))) : SOk K _ b_w_anything)
theorem sc_w_less : FnScope nm_w_less pm_w_less (defScope s_w_less) := ⟨rfl, rfl, rfl, by decide +kernel, rfl, by decide +kernel, by decide +kernel⟩
theorem bi_w_less (T : Txt K mg) : Binds K T.w_less.fd pm_w_less [] := T.w_less.F.binds fun _ _ _ _ _ _ us hl => by obtain ⟨_, _, rfl⟩ := len2 hl; rfl
theorem ok_w_less (T : Txt K mg) : FnOk P w K mg base CX0 1 T.w_less.f T.w_less.fd pm_w_less (spF K r_w_less) := by
  have nd := sc_w_less.nd
  refine data_F T.w_less.F sc_w_less fun cdv A outer s H E hr => ?_
  refine ⟨_, (pss_one (ps_ret (pe_cmpR op_lt (pe_op op_mulA (pe_ix (kix (K := K) rfl) (pv 0) pe_int (fun _ _ => rfl)) (pe_ix (kix (K := K) rfl) (pv 1) pe_int (fun _ _ => rfl))) (pe_op op_mulA (pe_ix (kix (K := K) rfl) (pv 1) pe_int (fun _ _ => rfl)) (pe_ix (kix (K := K) rfl) (pv 0) pe_int (fun _ _ => rfl))) (nomark _)))), ?_⟩
  exact ((sk_ret (gk_op od_lt (gk_op od_mul (gk_op od_ix gk_var gk_int) (gk_op od_ix gk_var gk_int)) (gk_op od_mul (gk_op od_ix gk_var gk_int) (gk_op od_ix gk_var gk_int)))) : SOk K _ b_w_less)
theorem sc_w_divisor : FnScope nm_w_divisor pm_w_divisor (defScope s_w_divisor) := ⟨rfl, rfl, rfl, by decide +kernel, rfl, by decide +kernel, by decide +kernel⟩
theorem bi_w_divisor (T : Txt K mg) : Binds K T.w_divisor.fd pm_w_divisor [] := T.w_divisor.F.binds fun _ _ _ _ _ _ us hl => by obtain ⟨_, _, rfl⟩ := len2 hl; rfl
theorem ok_w_divisor (T : Txt K mg) : FnOk P w K mg base CX0 1 T.w_divisor.f T.w_divisor.fd pm_w_divisor (spF K r_w_divisor) := by
  have nd := sc_w_divisor.nd
  refine data_F T.w_divisor.F sc_w_divisor fun cdv A outer s H E hr => ?_
  refine ⟨_, (pss_cons (ps_while PassesOwn.never (pt_cmpR (kop_ne (K := K) rfl hr.units) (pv 1) pe_int (nomark _)) (pss_one (ps_par (i := 0) (j := 1) rfl nd rfl rfl (by decide) rfl rfl (pa_cons (pv 1) (pa_cons (pe_op op_modA (pe_callTy cr_int (by rfl) T.int (by decide +kernel) (pa_cons (pv 0) pa_nil)) (pv 1)) pa_nil)) (by rfl))))
    (pss_one (ps_ret (pe_callB cr_abs (by rfl) T.abs (by decide +kernel) (pa_cons (pv 0) pa_nil))))), ?_⟩
  exact ((sk_seq (sk_while (fuelI 1) (tk_test (gk_op od_ne gk_var gk_int)) ((sk_ypar (yk_cons gk_var (yk_cons (gk_op od_mod (gk_cb cd_int (ak_cons gk_var ak_nil)) gk_var) yk_nil))) : SOk K _ b_w_divisor_1))
    (sk_ret (gk_cb cd_abs (ak_cons gk_var ak_nil)))) : SOk K _ b_w_divisor)
theorem sc_w_pair : FnScope nm_w_pair pm_w_pair (defScope s_w_pair) := ⟨rfl, rfl, rfl, by decide +kernel, rfl, by decide +kernel, by decide +kernel⟩
theorem bi_w_pair (T : Txt K mg) : Binds K T.w_pair.fd pm_w_pair [] := T.w_pair.F.binds fun _ _ _ _ _ _ us hl => by obtain ⟨_, rfl⟩ := len1 hl; rfl
theorem ok_w_pair (T : Txt K mg) : FnOk P w K mg base CX0 2 T.w_pair.f T.w_pair.fd pm_w_pair (spF K r_w_pair) := by
  have nd := sc_w_pair.nd
  refine data_F T.w_pair.F sc_w_pair fun cdv A outer s H E hr => ?_
  refine ⟨_, (pss_cons (ps_if (PW.pt (pw_and (kpt_tru (K := K) rfl (pe_callB (kcr_isi (K := K) rfl) (by rfl) T.isinstance (by decide +kernel) (pa_cons (pv 0) (pa_cons (pe_bltn (v := .ty "int") (u := .type "int") (by rfl) T.int (by decide +kernel) rfl) pa_nil))) (by intro _; rfl)) (pw_and1 (pt_not (kpt_tru (K := K) rfl (pe_callB (kcr_isi (K := K) rfl) (by rfl) T.isinstance (by decide +kernel) (pa_cons (pv 0) (pa_cons (pe_bltn (v := .ty "bool") (u := .type "bool") (by rfl) T.bool (by decide +kernel) rfl) pa_nil))) (by intro _; rfl)))))) (pss_one (ps_ret (pe_tup (pa_cons (pv 0) (pa_cons pe_int pa_nil))))) pss_nil)
    (pss_cons (ps_if (PW.pt (pw_or (pt_not (kpt_tru (K := K) rfl (pe_callB (kcr_isi (K := K) rfl) (by rfl) T.isinstance (by decide +kernel) (pa_cons (pv 0) (pa_cons (pe_bltn (v := .ty "tuple") (u := .type "tuple") (by rfl) T.tuple (by decide +kernel) rfl) pa_nil))) (by intro _; rfl))) (pw_or1 (pt_cmpR (kop_ne (K := K) rfl hr.units) (pe_callB (kcr_len (K := K) rfl) (by rfl) T.len (by decide +kernel) (pa_cons (pv 0) pa_nil)) pe_int (nomark _))))) (pss_one (ps_ret pe_non)) pss_nil)
    (pss_cons (ps_if (PW.pt (pw_or (pt_cmpR (kop_ne (K := K) rfl hr.units) (pe_lc (own := [("_law_one", 1)]) rfl nd (kpi_seq (K := K) rfl (pv 0)) (blkOk_by (N := nm_w_pair) (sc := defScope s_w_pair) (by decide +kernel)) (fun _ _ _ _ _ => (pg_name (i := 1) nd rfl (Or.inl rfl))) (fun _ _ _ _ _ => (pts_one (PW.pt (pw_or (pt_not (kpt_tru (K := K) rfl (pe_callB (kcr_isi (K := K) rfl) (by rfl) T.isinstance (by decide +kernel) (pa_cons (pv 1) (pa_cons (pe_bltn (v := .ty "int") (u := .type "int") (by rfl) T.int (by decide +kernel) rfl) pa_nil))) (by intro _; rfl))) (pw_or1 (kpt_tru (K := K) rfl (pe_callB (kcr_isi (K := K) rfl) (by rfl) T.isinstance (by decide +kernel) (pa_cons (pv 1) (pa_cons (pe_bltn (v := .ty "bool") (u := .type "bool") (by rfl) T.bool (by decide +kernel) rfl) pa_nil))) (by intro _; rfl))))))) (fun _ _ _ _ _ => (pv 1))) (pe_lst pa_nil) (nomark _)) (pw_or1 (pt_cmpR op_lt (pe_ix (kix (K := K) rfl) (pv 0) pe_int (fun _ _ => rfl)) pe_int (nomark _))))) (pss_one (ps_ret pe_non)) pss_nil)
    (pss_one (ps_ret (pe_ifExp (pt_cmpR (kop_eq (K := K) rfl hr.units) (pe_call (ok_w_divisor T) (hr.mono (by decide)) rfl T.w_divisor.m T.w_divisor.F.kp (bi_w_divisor T) .nil pass0 (pa_cons (pe_ix (kix (K := K) rfl) (pv 0) pe_int (fun _ _ => rfl)) (pa_cons (pe_ix (kix (K := K) rfl) (pv 0) pe_int (fun _ _ => rfl)) pa_nil))) pe_int (nomark _)) (pv 0) pe_non)))))), ?_⟩
  exact ((sk_seq (sk_if (tk_and (tk_truK (gk_cb (cd_isiU T.Rule.at_ T.iu_Rule) (ak_cons gk_var (ak_cons (gk_c fun _ => .ty _) ak_nil)))) (tk_not (tk_truK (gk_cb (cd_isiU T.Rule.at_ T.iu_Rule) (ak_cons gk_var (ak_cons (gk_c fun _ => .ty _) ak_nil)))))) (sk_ret (gk_tup (ak_cons gk_var (ak_cons gk_int ak_nil)))) sk_next)
    (sk_seq (sk_if (tk_or (tk_not (tk_truK (gk_cb (cd_isiU T.Rule.at_ T.iu_Rule) (ak_cons gk_var (ak_cons (gk_c fun _ => .ty _) ak_nil))))) (tk_test (gk_op od_ne (gk_cb cd_len (ak_cons gk_var ak_nil)) gk_int))) (sk_ret gk_non) sk_next)
    (sk_seq (sk_if (tk_or (tk_test (gk_op od_ne (gk_lc (ik_seq gk_var) gt_name (tk_or (tk_not (tk_truK (gk_cb (cd_isiU T.Rule.at_ T.iu_Rule) (ak_cons gk_var (ak_cons (gk_c fun _ => .ty _) ak_nil))))) (tk_truK (gk_cb (cd_isiU T.Rule.at_ T.iu_Rule) (ak_cons gk_var (ak_cons (gk_c fun _ => .ty _) ak_nil))))) gk_var (by decide)) (gk_lst ak_nil))) (tk_test (gk_op od_lt (gk_op od_ix gk_var gk_int) gk_int))) (sk_ret gk_non) sk_next)
    (sk_ret (gk_if (tk_test (gk_op od_eq (gk_call (ak_cons (gk_op od_ix gk_var gk_int) (ak_cons (gk_op od_ix gk_var gk_int) ak_nil))) gk_int)) gk_var gk_non))))) : SOk K _ b_w_pair)
theorem sc_w_due : FnScope nm_w_due pm_w_due (defScope s_w_due) := ⟨rfl, rfl, rfl, by decide +kernel, rfl, by decide +kernel, by decide +kernel⟩
theorem bi_w_due (T : Txt K mg) : Binds K T.w_due.fd pm_w_due [] := T.w_due.F.binds fun _ _ _ _ _ _ us hl => by obtain ⟨_, _, _, rfl⟩ := len3 hl; rfl
theorem ok_w_due (T : Txt K mg) : FnOk P w K mg base CX0 3 T.w_due.f T.w_due.fd pm_w_due (spF K r_w_due) := by
  have nd := sc_w_due.nd
  refine data_F T.w_due.F sc_w_due fun cdv A outer s H E hr => ?_
  refine ⟨_, (pss_cons (ps_if (PW.pt (pw_or (pt_not (kpt_tru (K := K) rfl (pe_callB (kcr_isiS (K := K) rfl) (by rfl) T.isinstance (by decide +kernel) (pa_cons (pv 0) (pa_cons (pe_tup (pa_cons (pe_bltn (v := .ty "list") (u := .type "list") (by rfl) T.list (by decide +kernel) rfl) (pa_cons (pe_bltn (v := .ty "tuple") (u := .type "tuple") (by rfl) T.tuple (by decide +kernel) rfl) pa_nil))) pa_nil))) (by intro _; rfl))) (pw_or1 (pt_cmpR (kop_eq (K := K) rfl hr.units) (pe_callB (kcr_len (K := K) rfl) (by rfl) T.len (by decide +kernel) (pa_cons (pv 0) pa_nil)) pe_int (nomark _))))) (pss_one (ps_ret pe_int)) pss_nil)
    (pss_cons (ps_set (i := 3) nd rfl (Or.inl rfl) pe_non)
    (pss_cons (ps_for PassesOwn.never rfl (kpi_enumA (K := K) rfl rfl T.enumerate (pa_cons (pv 0) pa_nil)) (kpg_tup (K := K) (n := 2) rfl rfl (pgs_cons (pg_name (i := 4) nd rfl (Or.inl rfl)) (pgs_cons (pg_name (i := 5) nd rfl (Or.inl rfl)) pgs_nil))) (pss_cons (ps_set (i := 6) nd rfl (Or.inl rfl) (pe_call (ok_w_pair T) (hr.mono (by decide)) rfl T.w_pair.m T.w_pair.F.kp (bi_w_pair T) .nil pass0 (pa_cons (pv 5) pa_nil)))
    (pss_cons (ps_if (PW.pt (pw_or (pt_cmpR op_isA (pv 6) pe_non (nomark _)) (pw_or (kpt_tru (K := K) rfl (pe_call (ok_w_less T) (hr.mono (by decide)) rfl T.w_less.m T.w_less.F.kp (bi_w_less T) .nil pass0 (pa_cons (pv 6) (pa_cons (pv 1) pa_nil))) (by intro _; rfl)) (pw_or1 (kpt_tru (K := K) rfl (pe_call (ok_w_less T) (hr.mono (by decide)) rfl T.w_less.m T.w_less.F.kp (bi_w_less T) .nil pass0 (pa_cons (pv 2) (pa_cons (pv 6) pa_nil))) (by intro _; rfl)))))) (pss_one (ps_ret (pv 4))) pss_nil)
    (pss_cons (ps_if (PW.pt (pw_and (pt_cmpR op_isNotA (pv 3) pe_non (nomark _)) (pw_and1 (pt_not (kpt_tru (K := K) rfl (pe_call (ok_w_less T) (hr.mono (by decide)) rfl T.w_less.m T.w_less.F.kp (bi_w_less T) .nil pass0 (pa_cons (pv 3) (pa_cons (pv 6) pa_nil))) (by intro _; rfl)))))) (pss_one (ps_ret (pv 4))) pss_nil)
    (pss_one (ps_set (i := 3) nd rfl (Or.inl rfl) (pv 6)))))))
    (pss_one (ps_ret pe_non))))), ?_⟩
  exact ((sk_seq (sk_if (tk_or (tk_not (tk_truK (gk_cb cd_isiS (ak_cons gk_var (ak_cons (gk_tup (ak_cons (gk_c fun _ => .ty _) (ak_cons (gk_c fun _ => .ty _) ak_nil))) ak_nil))))) (tk_test (gk_op od_eq (gk_cb cd_len (ak_cons gk_var ak_nil)) gk_int))) (sk_ret gk_int) sk_next)
    (sk_seq (sk_set gk_non)
    (sk_seq (sk_for (ik_enumA (ak_cons gk_var ak_nil)) (gt_tup (gts_cons gt_name (gts_cons gt_name gts_nil))) ((sk_seq (sk_set (gk_call (ak_cons gk_var ak_nil)))
    (sk_seq (sk_if (tk_or (tk_test (gk_op od_is gk_var gk_non)) (tk_or (tk_truK (gk_call (ak_cons gk_var (ak_cons gk_var ak_nil)))) (tk_truK (gk_call (ak_cons gk_var (ak_cons gk_var ak_nil)))))) (sk_ret gk_mv) sk_next)
    (sk_seq (sk_if (tk_and (tk_test (gk_op od_isNot gk_var gk_non)) (tk_not (tk_truK (gk_call (ak_cons gk_var (ak_cons gk_var ak_nil)))))) (sk_ret gk_mv) sk_next)
    (sk_set gk_var)))) : SOk K _ b_w_due_1))
    (sk_ret gk_non)))) : SOk K _ b_w_due)
theorem sc_area : FnScope nm_area pm_area (defScope s_area) := ⟨rfl, rfl, rfl, by decide +kernel, rfl, by decide +kernel, by decide +kernel⟩
theorem bi_area (T : Txt K mg) : Binds K T.area.fd pm_area [] := T.area.F.binds fun _ _ _ _ _ _ us hl => by obtain ⟨_, _, rfl⟩ := len2 hl; rfl
theorem ok_area (T : Txt K mg) : FnOk P w K mg base CX0 8 T.area.f T.area.fd pm_area (spF K r_area) := by
  have nd := sc_area.nd
  refine data_F T.area.F sc_area fun cdv A outer s H E hr => ?_
  refine ⟨_, (pss_cons (ps_asg (pe_call (ok_need_stretch T) (hr.mono (by decide)) rfl T.need_stretch.m T.need_stretch.F.kp (bi_need_stretch T) .nil pass0 (pa_cons (pv 0) (pa_cons (pv 1) pa_nil))) (kpg_tup (K := K) (n := 2) rfl rfl (pgs_cons (pg_name (i := 2) nd rfl (Or.inl rfl)) (pgs_cons (pg_name (i := 3) nd rfl (Or.inl rfl)) pgs_nil))))
    (pss_one (ps_ret (pe_make T.mk_Rule (ok_Rule_init T) (hr.mono (by decide)) rfl T.Rule.mg (bi_Rule_init_5 T).choose_spec.2 (bi_Rule_init_5 T).choose_spec.1 pass0 (pa_cons (pv 2) (pa_cons (pv 3) (pa_cons (pe_lst pa_nil) (pa_cons (pe_lst (pa_cons (pe_tup (pa_cons (pv 2) (pa_cons (pv 3) (pa_cons pe_int pa_nil)))) pa_nil)) pa_nil)))))))), ?_⟩
  exact ((sk_seq (sk_asg (gk_call (ak_cons gk_var (ak_cons gk_var ak_nil))) (gt_tup (gts_cons gt_name (gts_cons gt_name gts_nil))))
    (sk_ret (gk_make T.Rule (fun H => (drs_drop (T.Rule_init.d H) 2)) (ak_cons gk_var (ak_cons gk_var (ak_cons (gk_lst ak_nil) (ak_cons (gk_lst (ak_cons (gk_tup (ak_cons gk_var (ak_cons gk_var (ak_cons gk_int ak_nil)))) ak_nil)) ak_nil))))))) : SOk K _ b_area)
theorem sc_need_points : FnScope nm_need_points pm_need_points (defScope s_need_points) := ⟨rfl, rfl, rfl, by decide +kernel, rfl, by decide +kernel, by decide +kernel⟩
theorem bi_need_points (T : Txt K mg) : Binds K T.need_points.fd pm_need_points [] := T.need_points.F.binds fun _ _ _ _ _ _ us hl => by obtain ⟨_, _, _, rfl⟩ := len3 hl; rfl
theorem ok_need_points (T : Txt K mg) : FnOk P w K mg base CX0 5 T.need_points.f T.need_points.fd pm_need_points (spF K r_need_points) := by
  have nd := sc_need_points.nd
  refine data_F T.need_points.F sc_need_points fun cdv A outer s H E hr => ?_
  refine ⟨_, (pss_cons (ps_if (PW.pt (pw_or (pt_not (kpt_tru (K := K) rfl (pe_call (ok_is_sequence T) (hr.mono (by decide)) rfl T.is_sequence.m T.is_sequence.F.kp (bi_is_sequence T) .nil pass0 (pa_cons (pv 2) pa_nil)) (by intro _; rfl))) (pw_or1 (pt_cmpR (kop_eq (K := K) rfl hr.units) (pe_callB (kcr_len (K := K) rfl) (by rfl) T.len (by decide +kernel) (pa_cons (pv 2) pa_nil)) pe_int (nomark _))))) (pss_one ps_never) pss_nil)
    (pss_cons (ps_set (i := 3) nd rfl (Or.inl rfl) (pe_lst pa_nil))
    (pss_cons (ps_for PassesOwn.never rfl (kpi_enumA (K := K) rfl rfl T.enumerate (pa_cons (pv 2) pa_nil)) (kpg_tup (K := K) (n := 2) rfl rfl (pgs_cons (pg_name (i := 4) nd rfl (Or.inl rfl)) (pgs_cons (pg_name (i := 5) nd rfl (Or.inl rfl)) pgs_nil))) (pss_cons (ps_if (PW.pt (pw_or (pt_not (kpt_tru (K := K) rfl (pe_call (ok_is_between T) (hr.mono (by decide)) rfl T.is_between.m T.is_between.F.kp (bi_is_between T) .nil pass0 (pa_cons (pv 5) (pa_cons (pv 0) (pa_cons (pv 1) pa_nil)))) (by intro _; rfl))) (pw_or1 (PW.pt (pw_and (pt_cmpR op_gt (pv 4) pe_int (nomark _)) (pw_and1 (pt_not (kpt_tru (K := K) rfl (pe_call (ok_is_less T) (hr.mono (by decide)) rfl T.is_less.m T.is_less.F.kp (bi_is_less T) .nil pass0 (pa_cons (pe_ix (kix (K := K) rfl) (pv 3) (pe_un un_neg pe_int) (fun _ _ => rfl)) (pa_cons (pe_call (ok_value_of T) (hr.mono (by decide)) rfl T.value_of.m T.value_of.F.kp (bi_value_of T) .nil pass0 (pa_cons (pv 5) pa_nil)) pa_nil))) (by intro _; rfl))))))))) (pss_one ps_never) pss_nil)
    (pss_one (ps_expr (kpe_app (K := K) rfl (pv 3) (pe_call (ok_value_of T) (hr.mono (by decide)) rfl T.value_of.m T.value_of.F.kp (bi_value_of T) .nil pass0 (pa_cons (pv 5) pa_nil)))))))
    (pss_one (ps_ret (pv 3)))))), ?_⟩
  exact ((sk_seq (sk_if (tk_or (tk_not (tk_truK (gk_call (ak_cons gk_var ak_nil)))) (tk_test (gk_op od_eq (gk_cb cd_len (ak_cons gk_var ak_nil)) gk_int))) sk_never sk_next)
    (sk_seq (sk_set (gk_lst ak_nil))
    (sk_seq (sk_for (ik_enumA (ak_cons gk_var ak_nil)) (gt_tup (gts_cons gt_name (gts_cons gt_name gts_nil))) ((sk_seq (sk_if (tk_or (tk_not (tk_truK (gk_call (ak_cons gk_var (ak_cons gk_var (ak_cons gk_var ak_nil)))))) (tk_and (tk_test (gk_op od_gt gk_var gk_int)) (tk_not (tk_truK (gk_call (ak_cons (gk_by (gk_ixv (gk_un ud_neg gk_int)) (gk_op od_ix gk_var (gk_un ud_neg gk_int))) (ak_cons (gk_call (ak_cons gk_var ak_nil)) ak_nil))))))) sk_never sk_next)
    (sk_app (gk_call (ak_cons gk_var ak_nil)))) : SOk K _ b_need_points_1))
    (sk_ret gk_mv)))) : SOk K _ b_need_points)
theorem okE_need_points (T : Txt K mg) (hP : HPs T P) : FnOk P w K mg base (L2.CX P w) 5 T.need_points.f T.need_points.fd pm_need_points (spE K e_need_points) := by
  have nd := sc_need_points.nd
  refine data_E T.need_points.F sc_need_points fun cdv A outer s H E hr => ?_
  refine ⟨_, fun W tk => (pss_cons (ps_if (PW.pt (pw_or (pt_not (kpt_tru (K := K) rfl (pe_call (ok_is_sequence T) (hr.mono (by decide)) rfl T.is_sequence.m T.is_sequence.F.kp (bi_is_sequence T) .nil pass0 (pa_cons (pv 2) pa_nil)) (by intro _; rfl))) (pw_or1 (pt_cmpR (kop_eq (K := K) rfl hr.units) (pe_callB (kcr_len (K := K) rfl) (by rfl) T.len (by decide +kernel) (pa_cons (pv 2) pa_nil)) pe_int (nomark _))))) (pss_one (ps_rai T.X2 (by rfl) (by decide) (by decide) hP.h2 T.su rfl tk (hr.mono (by decide)) (by rfl) (pa_cons pe_int pa_nil))) pss_nil)
    (pss_cons (ps_set (i := 3) nd rfl (Or.inl rfl) (pe_lst pa_nil))
    (pss_cons (ps_for (passes_of rfl) rfl (kpi_enumA (K := K) rfl rfl T.enumerate (pa_cons (pv 2) pa_nil)) (kpg_tup (K := K) (n := 2) rfl rfl (pgs_cons (pg_name (i := 4) nd rfl (Or.inl rfl)) (pgs_cons (pg_name (i := 5) nd rfl (Or.inl rfl)) pgs_nil))) (pss_cons (ps_if (PW.pt (pw_or (pt_not (kpt_tru (K := K) rfl (pe_call (ok_is_between T) (hr.mono (by decide)) rfl T.is_between.m T.is_between.F.kp (bi_is_between T) .nil pass0 (pa_cons (pv 5) (pa_cons (pv 0) (pa_cons (pv 1) pa_nil)))) (by intro _; rfl))) (pw_or1 (PW.pt (pw_and (pt_cmpR op_gt (pv 4) pe_int (nomark _)) (pw_and1 (pt_not (kpt_tru (K := K) rfl (pe_call (ok_is_less T) (hr.mono (by decide)) rfl T.is_less.m T.is_less.F.kp (bi_is_less T) .nil pass0 (pa_cons (pe_ix (kix (K := K) rfl) (pv 3) (pe_un un_neg pe_int) (fun _ _ => rfl)) (pa_cons (pe_call (ok_value_of T) (hr.mono (by decide)) rfl T.value_of.m T.value_of.F.kp (bi_value_of T) .nil pass0 (pa_cons (pv 5) pa_nil)) pa_nil))) (by intro _; rfl))))))))) (pss_one (ps_rai T.X2 (by rfl) (by decide) (by decide) hP.h2 T.su rfl tk (hr.mono (by decide)) (by rfl) (pa_cons (pv 4) pa_nil))) pss_nil)
    (pss_one (ps_expr (kpe_app (K := K) rfl (pv 3) (pe_call (ok_value_of T) (hr.mono (by decide)) rfl T.value_of.m T.value_of.F.kp (bi_value_of T) .nil pass0 (pa_cons (pv 5) pa_nil)))))))
    pss_never))), ?_⟩
  exact ((es_seq (es_if (fun W => (tk_or (tk_not (tk_truK (gk_call (ak_cons gk_var ak_nil)))) (tk_test (gk_op od_eq (gk_cb cd_len (ak_cons gk_var ak_nil)) gk_int)))) (es_raise T.X2.at_ (fun W => gk_int)) es_none) (fun W => (sk_if (tk_or (tk_not (tk_truK (gk_call (ak_cons gk_var ak_nil)))) (tk_test (gk_op od_eq (gk_cb cd_len (ak_cons gk_var ak_nil)) gk_int))) sk_nev sk_next))
    (es_seq es_none (fun W => (sk_set (gk_lst ak_nil)))
    (es_seq (es_for (fun W => (ik_enumA (ak_cons gk_var ak_nil))) (gt_tup (gts_cons gt_name (gts_cons gt_name gts_nil))) (fun W => (sk_seq (sk_if (tk_or (tk_not (tk_truK (gk_call (ak_cons gk_var (ak_cons gk_var (ak_cons gk_var ak_nil)))))) (tk_and (tk_test (gk_op od_gt gk_var gk_int)) (tk_not (tk_truK (gk_call (ak_cons (gk_by (gk_ixv (gk_un ud_neg gk_int)) (gk_op od_ix gk_var (gk_un ud_neg gk_int))) (ak_cons (gk_call (ak_cons gk_var ak_nil)) ak_nil))))))) sk_nev sk_next)
    (sk_app (gk_call (ak_cons gk_var ak_nil))))) (es_seq (es_if (fun W => (tk_or (tk_not (tk_truK (gk_call (ak_cons gk_var (ak_cons gk_var (ak_cons gk_var ak_nil)))))) (tk_and (tk_test (gk_op od_gt gk_var gk_int)) (tk_not (tk_truK (gk_call (ak_cons (gk_by (gk_ixv (gk_un ud_neg gk_int)) (gk_op od_ix gk_var (gk_un ud_neg gk_int))) (ak_cons (gk_call (ak_cons gk_var ak_nil)) ak_nil)))))))) (es_raise T.X2.at_ (fun W => gk_var)) es_none) (fun W => (sk_if (tk_or (tk_not (tk_truK (gk_call (ak_cons gk_var (ak_cons gk_var (ak_cons gk_var ak_nil)))))) (tk_and (tk_test (gk_op od_gt gk_var gk_int)) (tk_not (tk_truK (gk_call (ak_cons (gk_by (gk_ixv (gk_un ud_neg gk_int)) (gk_op od_ix gk_var (gk_un ud_neg gk_int))) (ak_cons (gk_call (ak_cons gk_var ak_nil)) ak_nil))))))) sk_nev sk_next))
    es_none)) (fun W => (sk_for (ik_enumA (ak_cons gk_var ak_nil)) (gt_tup (gts_cons gt_name (gts_cons gt_name gts_nil))) (sk_seq (sk_if (tk_or (tk_not (tk_truK (gk_call (ak_cons gk_var (ak_cons gk_var (ak_cons gk_var ak_nil)))))) (tk_and (tk_test (gk_op od_gt gk_var gk_int)) (tk_not (tk_truK (gk_call (ak_cons (gk_by (gk_ixv (gk_un ud_neg gk_int)) (gk_op od_ix gk_var (gk_un ud_neg gk_int))) (ak_cons (gk_call (ak_cons gk_var ak_nil)) ak_nil))))))) sk_nev sk_next)
    (sk_app (gk_call (ak_cons gk_var ak_nil))))))
    es_none))) : ES K _ eb_need_points)
theorem okZ_need_points (T : Txt K mg) (hP : HPs T P) : FnOk P w K mg base (L2.CX P w) 5 T.need_points.f T.need_points.fd pm_need_points (spZ K r_need_points e_need_points) := fnOk_or (ok_need_points T) (okE_need_points T hP) (by decide) (by decide)
theorem sc_less_by : FnScope nm_less_by pm_less_by (defScope s_less_by) := ⟨rfl, rfl, rfl, by decide +kernel, rfl, by decide +kernel, by decide +kernel⟩
theorem bi_less_by (T : Txt K mg) : Binds K T.less_by.fd pm_less_by [] := T.less_by.F.binds fun _ _ _ _ _ _ us hl => by obtain ⟨_, _, rfl⟩ := len2 hl; rfl
theorem ok_less_by (T : Txt K mg) : FnOk P w K mg base CX0 3 T.less_by.f T.less_by.fd pm_less_by (spF K r_less_by) := by
  have nd := sc_less_by.nd
  refine data_F T.less_by.F sc_less_by fun cdv A outer s H E hr => ?_
  refine ⟨_, (pss_one (ps_ret (pe_call (ok_lowest T) (hr.mono (by decide)) rfl T.lowest.m T.lowest.F.kp (bi_lowest T) .nil pass0 (pa_cons (pe_op op_subA (pe_op op_mulA (pe_ix (kix (K := K) rfl) (pv 0) pe_int (fun _ _ => rfl)) (pe_ix (kix (K := K) rfl) (pv 1) pe_int (fun _ _ => rfl))) (pe_op op_mulA (pe_ix (kix (K := K) rfl) (pv 1) pe_int (fun _ _ => rfl)) (pe_ix (kix (K := K) rfl) (pv 0) pe_int (fun _ _ => rfl)))) (pa_cons (pe_op op_mulA (pe_ix (kix (K := K) rfl) (pv 0) pe_int (fun _ _ => rfl)) (pe_ix (kix (K := K) rfl) (pv 1) pe_int (fun _ _ => rfl))) pa_nil))))), ?_⟩
  exact ((sk_ret (gk_call (ak_cons (gk_op od_sub (gk_op od_mul (gk_op od_ix gk_var gk_int) (gk_op od_ix gk_var gk_int)) (gk_op od_mul (gk_op od_ix gk_var gk_int) (gk_op od_ix gk_var gk_int))) (ak_cons (gk_op od_mul (gk_op od_ix gk_var gk_int) (gk_op od_ix gk_var gk_int)) ak_nil)))) : SOk K _ b_less_by)
theorem sc_multiplied : FnScope nm_multiplied pm_multiplied (defScope s_multiplied) := ⟨rfl, rfl, rfl, by decide +kernel, rfl, by decide +kernel, by decide +kernel⟩
theorem bi_multiplied (T : Txt K mg) : Binds K T.multiplied.fd pm_multiplied [] := T.multiplied.F.binds fun _ _ _ _ _ _ us hl => by obtain ⟨_, _, rfl⟩ := len2 hl; rfl
theorem ok_multiplied (T : Txt K mg) : FnOk P w K mg base CX0 3 T.multiplied.f T.multiplied.fd pm_multiplied (spF K r_multiplied) := by
  have nd := sc_multiplied.nd
  refine data_F T.multiplied.F sc_multiplied fun cdv A outer s H E hr => ?_
  refine ⟨_, (pss_one (ps_ret (pe_call (ok_lowest T) (hr.mono (by decide)) rfl T.lowest.m T.lowest.F.kp (bi_lowest T) .nil pass0 (pa_cons (pe_op op_mulA (pe_ix (kix (K := K) rfl) (pv 0) pe_int (fun _ _ => rfl)) (pe_ix (kix (K := K) rfl) (pv 1) pe_int (fun _ _ => rfl))) (pa_cons (pe_op op_mulA (pe_ix (kix (K := K) rfl) (pv 0) pe_int (fun _ _ => rfl)) (pe_ix (kix (K := K) rfl) (pv 1) pe_int (fun _ _ => rfl))) pa_nil))))), ?_⟩
  exact ((sk_ret (gk_call (ak_cons (gk_op od_mul (gk_op od_ix gk_var gk_int) (gk_op od_ix gk_var gk_int)) (ak_cons (gk_op od_mul (gk_op od_ix gk_var gk_int) (gk_op od_ix gk_var gk_int)) ak_nil)))) : SOk K _ b_multiplied)
theorem sc_quotient : FnScope nm_quotient pm_quotient (defScope s_quotient) := ⟨rfl, rfl, rfl, by decide +kernel, rfl, by decide +kernel, by decide +kernel⟩
theorem bi_quotient (T : Txt K mg) : Binds K T.quotient.fd pm_quotient [] := T.quotient.F.binds fun _ _ _ _ _ _ us hl => by obtain ⟨_, _, rfl⟩ := len2 hl; rfl
theorem ok_quotient (T : Txt K mg) : FnOk P w K mg base CX0 3 T.quotient.f T.quotient.fd pm_quotient (spF K r_quotient) := by
  have nd := sc_quotient.nd
  refine data_F T.quotient.F sc_quotient fun cdv A outer s H E hr => ?_
  refine ⟨_, (pss_one (ps_ret (pe_call (ok_lowest T) (hr.mono (by decide)) rfl T.lowest.m T.lowest.F.kp (bi_lowest T) .nil pass0 (pa_cons (pe_op op_mulA (pe_ix (kix (K := K) rfl) (pv 0) pe_int (fun _ _ => rfl)) (pe_ix (kix (K := K) rfl) (pv 1) pe_int (fun _ _ => rfl))) (pa_cons (pe_op op_mulA (pe_ix (kix (K := K) rfl) (pv 0) pe_int (fun _ _ => rfl)) (pe_ix (kix (K := K) rfl) (pv 1) pe_int (fun _ _ => rfl))) pa_nil))))), ?_⟩
  exact ((sk_ret (gk_call (ak_cons (gk_op od_mul (gk_op od_ix gk_var gk_int) (gk_op od_ix gk_var gk_int)) (ak_cons (gk_op od_mul (gk_op od_ix gk_var gk_int) (gk_op od_ix gk_var gk_int)) ak_nil)))) : SOk K _ b_quotient)
theorem sc_powers_of : FnScope nm_powers_of pm_powers_of (defScope s_powers_of) := ⟨rfl, rfl, rfl, by decide +kernel, rfl, by decide +kernel, by decide +kernel⟩
theorem bi_powers_of (T : Txt K mg) : Binds K T.powers_of.fd pm_powers_of [] := T.powers_of.F.binds fun _ _ _ _ _ _ us hl => by obtain ⟨_, _, rfl⟩ := len2 hl; rfl
theorem ok_powers_of (T : Txt K mg) : FnOk P w K mg base CX0 4 T.powers_of.f T.powers_of.fd pm_powers_of (spF K r_powers_of) := by
  have nd := sc_powers_of.nd
  refine data_F T.powers_of.F sc_powers_of fun cdv A outer s H E hr => ?_
  refine ⟨_, (pss_cons (ps_set (i := 2) nd rfl (Or.inl rfl) (pe_lst (pa_cons (pe_glob rfl T.ONE.m T.ONE.r) pa_nil)))
    (pss_cons (ps_for PassesOwn.never rfl (kpi_seq (K := K) rfl (pv 1)) (pg_name (i := 3) nd rfl (Or.inr rfl)) (pss_cons (ps_set (i := 4) nd rfl (Or.inr rfl) (pe_call (ok_less_by T) (hr.mono (by decide)) rfl T.less_by.m T.less_by.F.kp (bi_less_by T) .nil pass0 (pa_cons (pv 0) (pa_cons (pv 3) pa_nil))))
    (pss_cons (ps_setLc (i := 5) (own := [("one", 6)]) rfl nd rfl rfl (sw_true rfl rfl rfl (by decide +kernel)) (kpi_seq (K := K) rfl (pe_lst (kpa_star (K := K) rfl (pv 2) (pa_cons (pe_glob rfl T.NOUGHT.m T.NOUGHT.r) pa_nil)))) (blkOk_by (N := nm_powers_of) (sc := defScope s_powers_of) (by decide +kernel)) (fun _ _ _ _ _ => (pg_name (i := 6) nd rfl (Or.inl rfl))) (fun _ _ _ _ _ => pts_nil) (fun _ _ _ _ _ => (pe_call (ok_multiplied T) (hr.mono (by decide)) rfl T.multiplied.m T.multiplied.F.kp (bi_multiplied T) .nil pass0 (pa_cons (pv 6) (pa_cons (pv 3) pa_nil)))))
    (pss_one (ps_setLc (i := 2) (own := [("high", 7), ("low", 8)]) rfl nd rfl rfl (sw_true rfl rfl rfl (by decide +kernel)) (kpi_zipA (K := K) rfl rfl T.zip (pa_cons (pe_lst (pa_cons (pe_glob rfl T.NOUGHT.m T.NOUGHT.r) (kpa_star (K := K) rfl (pv 2) pa_nil))) (pa_cons (pv 5) pa_nil))) (blkOk_by (N := nm_powers_of) (sc := defScope s_powers_of) (by decide +kernel)) (fun _ _ _ _ _ => (kpg_tup (K := K) (n := 2) rfl rfl (pgs_cons (pg_name (i := 7) nd rfl (Or.inl rfl)) (pgs_cons (pg_name (i := 8) nd rfl (Or.inl rfl)) pgs_nil)))) (fun _ _ _ _ _ => pts_nil) (fun _ _ _ _ _ => (pe_call (ok_quotient T) (hr.mono (by decide)) rfl T.quotient.m T.quotient.F.kp (bi_quotient T) .nil pass0 (pa_cons (pe_call (ok_less_by T) (hr.mono (by decide)) rfl T.less_by.m T.less_by.F.kp (bi_less_by T) .nil pass0 (pa_cons (pv 7) (pa_cons (pv 8) pa_nil))) (pa_cons (pv 4) pa_nil)))))))))
    (pss_one (ps_ret (pv 2))))), ?_⟩
  exact ((sk_seq (sk_set (gk_lst (ak_cons (gk_c T.ONE.d) ak_nil)))
    (sk_seq (sk_for (ik_seq gk_var) gt_name ((sk_seq (sk_set (gk_call (ak_cons gk_var (ak_cons gk_var ak_nil))))
    (sk_seq (sk_set (gk_lc (ik_seq (gk_lst (ak_star gk_var (ak_cons (gk_c T.NOUGHT.d) ak_nil)))) gt_name tk_yes (gk_call (ak_cons gk_var (ak_cons gk_var ak_nil))) (by decide)))
    (sk_set (gk_lc (ik_zipA (ak_cons (gk_lst (ak_cons (gk_c T.NOUGHT.d) (ak_star gk_var ak_nil))) (ak_cons gk_var ak_nil))) (gt_tup (gts_cons gt_name (gts_cons gt_name gts_nil))) tk_yes (gk_call (ak_cons (gk_call (ak_cons gk_var (ak_cons gk_var ak_nil))) (ak_cons gk_var ak_nil))) (by decide))))) : SOk K _ b_powers_of_1))
    (sk_ret gk_mv))) : SOk K _ b_powers_of)
theorem sc_area_powers : FnScope nm_area_powers pm_area_powers (defScope s_area_powers) := ⟨rfl, rfl, rfl, by decide +kernel, rfl, by decide +kernel, by decide +kernel⟩
theorem bi_area_powers (T : Txt K mg) : Binds K T.area_powers.fd pm_area_powers [] := T.area_powers.F.binds fun _ _ _ _ _ _ us hl => by obtain ⟨_, rfl⟩ := len1 hl; rfl
theorem ok_area_powers (T : Txt K mg) : FnOk P w K mg base CX0 4 T.area_powers.f T.area_powers.fd pm_area_powers (spF K r_area_powers) := by
  have nd := sc_area_powers.nd
  refine data_F T.area_powers.F sc_area_powers fun cdv A outer s H E hr => ?_
  refine ⟨_, (pss_one (ps_ret (pe_lst (pa_cons (pe_glob rfl T.NOUGHT.m T.NOUGHT.r) (kpa_star (K := K) rfl (pe_lc (own := [("at", 1), ("one", 2)]) rfl nd (kpi_enumA (K := K) rfl rfl T.enumerate (pa_cons (pv 0) pa_nil)) (blkOk_by (N := nm_area_powers) (sc := defScope s_area_powers) (by decide +kernel)) (fun _ _ _ _ _ => (kpg_tup (K := K) (n := 2) rfl rfl (pgs_cons (pg_name (i := 1) nd rfl (Or.inl rfl)) (pgs_cons (pg_name (i := 2) nd rfl (Or.inl rfl)) pgs_nil)))) (fun _ _ _ _ _ => pts_nil) (fun _ _ _ _ _ => (pe_call (ok_quotient T) (hr.mono (by decide)) rfl T.quotient.m T.quotient.F.kp (bi_quotient T) .nil pass0 (pa_cons (pv 2) (pa_cons (pe_tup (pa_cons (pe_op (kop_addB (K := K) rfl) (pv 1) pe_int) (pa_cons pe_int pa_nil))) pa_nil))))) pa_nil))))), ?_⟩
  exact ((sk_ret (gk_lst (ak_cons (gk_c T.NOUGHT.d) (ak_star (gk_lc (ik_enumA (ak_cons gk_var ak_nil)) (gt_tup (gts_cons gt_name (gts_cons gt_name gts_nil))) tk_yes (gk_call (ak_cons gk_var (ak_cons (gk_tup (ak_cons (gk_op od_addB gk_var gk_int) (ak_cons gk_int ak_nil))) ak_nil))) (by decide)) ak_nil)))) : SOk K _ b_area_powers)
theorem sc_value_at : FnScope nm_value_at pm_value_at (defScope s_value_at) := ⟨rfl, rfl, rfl, by decide +kernel, rfl, by decide +kernel, by decide +kernel⟩
theorem bi_value_at (T : Txt K mg) : Binds K T.value_at.fd pm_value_at [] := T.value_at.F.binds fun _ _ _ _ _ _ us hl => by obtain ⟨_, _, rfl⟩ := len2 hl; rfl
theorem ok_value_at (T : Txt K mg) : FnOk P w K mg base CX0 4 T.value_at.f T.value_at.fd pm_value_at (spF K r_value_at) := by
  have nd := sc_value_at.nd
  refine data_F T.value_at.F sc_value_at fun cdv A outer s H E hr => ?_
  refine ⟨_, (pss_cons (ps_set (i := 2) nd rfl (Or.inl rfl) (pe_glob rfl T.NOUGHT.m T.NOUGHT.r))
    (pss_cons (ps_for PassesOwn.never rfl (kpi_seq (K := K) rfl (kpe_rev (K := K) rfl (pv 0) (pe_un un_neg pe_int))) (pg_name (i := 3) nd rfl (Or.inl rfl)) (pss_one (ps_set (i := 2) nd rfl (Or.inl rfl) (pe_call (ok_added T) (hr.mono (by decide)) rfl T.added.m T.added.F.kp (bi_added T) .nil pass0 (pa_cons (pe_call (ok_multiplied T) (hr.mono (by decide)) rfl T.multiplied.m T.multiplied.F.kp (bi_multiplied T) .nil pass0 (pa_cons (pv 2) (pa_cons (pv 1) pa_nil))) (pa_cons (pv 3) pa_nil))))))
    (pss_one (ps_ret (pv 2))))), ?_⟩
  exact ((sk_seq (sk_set (gk_c T.NOUGHT.d))
    (sk_seq (sk_for (ik_seq (gk_rev gk_var (gk_un ud_neg gk_int))) gt_name ((sk_set (gk_call (ak_cons (gk_call (ak_cons gk_var (ak_cons gk_var ak_nil))) (ak_cons gk_var ak_nil)))) : SOk K _ b_value_at_1))
    (sk_ret gk_mv))) : SOk K _ b_value_at)
theorem sc_told : FnScope nm_told pm_told (defScope s_told) := ⟨rfl, rfl, rfl, by decide +kernel, rfl, by decide +kernel, by decide +kernel⟩
theorem bi_told (T : Txt K mg) : Binds K T.told.fd pm_told [] := T.told.F.binds fun _ _ _ _ _ _ us hl => by obtain ⟨_, _, rfl⟩ := len2 hl; rfl
theorem ok_told (T : Txt K mg) : FnOk P w K mg base CX0 5 T.told.f T.told.fd pm_told (spF K r_told) := by
  have nd := sc_told.nd
  refine data_F T.told.F sc_told fun cdv A outer s H E hr => ?_
  refine ⟨_, (pss_cons (ps_set (i := 2) nd rfl (Or.inr rfl) (pe_lc (own := [("one", 8)]) rfl nd (kpi_seq (K := K) rfl (pv 1)) (blkOk_by (N := nm_told) (sc := defScope s_told) (by decide +kernel)) (fun _ _ _ _ _ => (pg_name (i := 8) nd rfl (Or.inl rfl))) (fun _ _ _ _ _ => pts_nil) (fun _ _ _ _ _ => (pe_call (ok_value_of T) (hr.mono (by decide)) rfl T.value_of.m T.value_of.F.kp (bi_value_of T) .nil pass0 (pa_cons (pv 8) pa_nil)))))
    (pss_cons (ps_set (i := 3) nd rfl (Or.inl rfl) (pe_call (ok_area_powers T) (hr.mono (by decide)) rfl T.area_powers.m T.area_powers.F.kp (bi_area_powers T) .nil pass0 (pa_cons (pv 2) pa_nil)))
    (pss_cons (ps_setLc (i := 4) (own := [("point", 9), ("weight", 10)]) rfl nd rfl rfl (sw_true rfl rfl rfl (by decide +kernel)) (kpi_seq (K := K) rfl (kpe_fld (K := K) rfl (pv 0) rfl)) (blkOk_by (N := nm_told) (sc := defScope s_told) (by decide +kernel)) (fun _ _ _ _ _ => (kpg_tup (K := K) (n := 2) rfl rfl (pgs_cons (pg_name (i := 9) nd rfl (Or.inl rfl)) (pgs_cons (pg_name (i := 10) nd rfl (Or.inl rfl)) pgs_nil)))) (fun _ _ _ _ _ => pts_nil) (fun _ _ _ _ _ => (pe_call (ok_multiplied T) (hr.mono (by decide)) rfl T.multiplied.m T.multiplied.F.kp (bi_multiplied T) .nil pass0 (pa_cons (pv 10) (pa_cons (pe_call (ok_value_at T) (hr.mono (by decide)) rfl T.value_at.m T.value_at.F.kp (bi_value_at T) .nil pass0 (pa_cons (pv 2) (pa_cons (pv 9) pa_nil))) pa_nil)))))
    (pss_cons (ps_for PassesOwn.never rfl (kpi_seq (K := K) rfl (kpe_fld (K := K) rfl (pv 0) rfl)) (kpg_tup (K := K) (n := 3) rfl rfl (pgs_cons (pg_name (i := 5) nd rfl (Or.inl rfl)) (pgs_cons (pg_name (i := 6) nd rfl (Or.inl rfl)) (pgs_cons (pg_name (i := 7) nd rfl (Or.inl rfl)) pgs_nil)))) (pss_one (ps_expr (kpe_app (K := K) rfl (pv 4) (pe_call (ok_multiplied T) (hr.mono (by decide)) rfl T.multiplied.m T.multiplied.F.kp (bi_multiplied T) .nil pass0 (pa_cons (pv 7) (pa_cons (pe_call (ok_less_by T) (hr.mono (by decide)) rfl T.less_by.m T.less_by.F.kp (bi_less_by T) .nil pass0 (pa_cons (pe_call (ok_value_at T) (hr.mono (by decide)) rfl T.value_at.m T.value_at.F.kp (bi_value_at T) .nil pass0 (pa_cons (pv 3) (pa_cons (pv 6) pa_nil))) (pa_cons (pe_call (ok_value_at T) (hr.mono (by decide)) rfl T.value_at.m T.value_at.F.kp (bi_value_at T) .nil pass0 (pa_cons (pv 3) (pa_cons (pv 5) pa_nil))) pa_nil))) pa_nil)))))))
    (pss_one (ps_ret (pe_call (ok_summed T) (hr.mono (by decide)) rfl T.summed.m T.summed.F.kp (bi_summed T) .nil pass0 (pa_cons (pv 4) pa_nil)))))))), ?_⟩
  exact ((sk_seq (sk_set (gk_lc (ik_seq gk_var) gt_name tk_yes (gk_call (ak_cons gk_var ak_nil)) (by decide)))
    (sk_seq (sk_set (gk_call (ak_cons gk_var ak_nil)))
    (sk_seq (sk_set (gk_lc (ik_seq (gk_fld T.Rule rfl gk_var)) (gt_tup (gts_cons gt_name (gts_cons gt_name gts_nil))) tk_yes (gk_call (ak_cons gk_var (ak_cons (gk_call (ak_cons gk_var (ak_cons gk_var ak_nil))) ak_nil))) (by decide)))
    (sk_seq (sk_for (ik_seq (gk_fld T.Rule rfl gk_var)) (gt_tup (gts_cons gt_name (gts_cons gt_name (gts_cons gt_name gts_nil)))) ((sk_app (gk_call (ak_cons gk_var (ak_cons (gk_call (ak_cons (gk_call (ak_cons gk_var (ak_cons gk_var ak_nil))) (ak_cons (gk_call (ak_cons gk_var (ak_cons gk_var ak_nil))) ak_nil))) ak_nil)))) : SOk K _ b_told_1))
    (sk_ret (gk_call (ak_cons gk_var ak_nil))))))) : SOk K _ b_told)
theorem sc_best : FnScope nm_best pm_best (defScope s_best) := ⟨rfl, rfl, rfl, by decide +kernel, rfl, by decide +kernel, by decide +kernel⟩
theorem bi_best (T : Txt K mg) : Binds K T.best.fd pm_best [] := T.best.F.binds fun _ _ _ _ _ _ us hl => by obtain ⟨_, _, _, rfl⟩ := len3 hl; rfl
theorem ok_best (T : Txt K mg) : FnOk P w K mg base CX0 9 T.best.f T.best.fd pm_best (spF K r_best) := by
  have nd := sc_best.nd
  refine data_F T.best.F sc_best fun cdv A outer s H E hr => ?_
  refine ⟨_, (pss_cons (ps_asg (pe_call (ok_need_stretch T) (hr.mono (by decide)) rfl T.need_stretch.m T.need_stretch.F.kp (bi_need_stretch T) .nil pass0 (pa_cons (pv 0) (pa_cons (pv 1) pa_nil))) (kpg_tup (K := K) (n := 2) rfl rfl (pgs_cons (pg_name (i := 3) nd rfl (Or.inl rfl)) (pgs_cons (pg_name (i := 4) nd rfl (Or.inl rfl)) pgs_nil))))
    (pss_cons (ps_set (i := 5) nd rfl (Or.inl rfl) (pe_call (ok_need_points T) (hr.mono (by decide)) rfl T.need_points.m T.need_points.F.kp (bi_need_points T) .nil pass0 (pa_cons (pv 3) (pa_cons (pv 4) (pa_cons (pv 2) pa_nil)))))
    (pss_cons (ps_par (i := 6) (j := 7) rfl nd rfl rfl (by decide) rfl rfl (pa_cons (pe_call (ok_area T) (hr.mono (by decide)) rfl T.area.m T.area.F.kp (bi_area T) .nil pass0 (pa_cons (pv 3) (pa_cons (pv 4) pa_nil))) (pa_cons (pe_lst pa_nil) pa_nil)) (by rfl))
    (pss_cons (ps_for PassesOwn.never rfl (kpi_seq (K := K) rfl (pv 5)) (pg_name (i := 8) nd rfl (Or.inr rfl)) (pss_one (ps_expr (kpe_app (K := K) rfl (pv 7) (pe_tup (pa_cons (pv 8) (pa_cons (pe_call (ok_told T) (hr.mono (by decide)) rfl T.told.m T.told.F.kp (bi_told T) .nil pass0 (pa_cons (pv 6) (pa_cons (pe_call (ok_powers_of T) (hr.mono (by decide)) rfl T.powers_of.m T.powers_of.F.kp (bi_powers_of T) .nil pass0 (pa_cons (pv 8) (pa_cons (pe_lc (own := [("other", 9)]) rfl nd (kpi_seq (K := K) rfl (pv 5)) (blkOk_by (N := nm_best) (sc := defScope s_best) (by decide +kernel)) (fun _ _ _ _ _ => (pg_name (i := 9) nd rfl (Or.inl rfl))) (fun _ _ _ _ _ => (pts_one (pt_cmpR (kop_ne (K := K) rfl hr.units) (pv 9) (pv 8) (nomark _)))) (fun _ _ _ _ _ => (pv 9))) pa_nil))) pa_nil))) pa_nil)))))))
    (pss_one (ps_ret (pe_make T.mk_Rule (ok_Rule_init T) (hr.mono (by decide)) rfl T.Rule.mg (bi_Rule_init_4 T).choose_spec.2 (bi_Rule_init_4 T).choose_spec.1 pass0 (pa_cons (pv 3) (pa_cons (pv 4) (pa_cons (pv 7) pa_nil)))))))))), ?_⟩
  exact ((sk_seq (sk_asg (gk_call (ak_cons gk_var (ak_cons gk_var ak_nil))) (gt_tup (gts_cons gt_name (gts_cons gt_name gts_nil))))
    (sk_seq (sk_set (gk_call (ak_cons gk_var (ak_cons gk_var (ak_cons gk_var ak_nil)))))
    (sk_seq (sk_ypar (yk_cons (gk_call (ak_cons gk_var (ak_cons gk_var ak_nil))) (yk_cons (gk_lst ak_nil) yk_nil)))
    (sk_seq (sk_for (ik_seq gk_var) gt_name ((sk_app (gk_tup (ak_cons gk_var (ak_cons (gk_call (ak_cons gk_var (ak_cons (gk_call (ak_cons gk_var (ak_cons (gk_lc (ik_seq gk_var) gt_name (tk_test (gk_op od_ne gk_var gk_var)) gk_var (by decide)) ak_nil))) ak_nil))) ak_nil)))) : SOk K _ b_best_1))
    (sk_ret (gk_make T.Rule (fun H => (drs_drop (T.Rule_init.d H) 1)) (ak_cons gk_var (ak_cons gk_var (ak_cons gk_var ak_nil))))))))) : SOk K _ b_best)
theorem okE_best (T : Txt K mg) (hP : HPs T P) : FnOk P w K mg base (L2.CX P w) 9 T.best.f T.best.fd pm_best (spE K e_best) := by
  have nd := sc_best.nd
  refine data_E T.best.F sc_best fun cdv A outer s H E hr => ?_
  refine ⟨_, fun W tk => (pss_cons (ps_asg (pe_callS (okZ_need_stretch T hP) (hr.mono (by decide)) rfl T.need_stretch.m T.need_stretch.F.kp (bi_need_stretch T) (fun σ => passAt tk σ) (pa_cons (pv 0) (pa_cons (pv 1) pa_nil))) (kpg_tup (K := K) (n := 2) rfl rfl (pgs_cons (pg_name (i := 3) nd rfl (Or.inl rfl)) (pgs_cons (pg_name (i := 4) nd rfl (Or.inl rfl)) pgs_nil))))
    (pss_cons (ps_set (i := 5) nd rfl (Or.inl rfl) (pe_callS (okZ_need_points T hP) (hr.mono (by decide)) rfl T.need_points.m T.need_points.F.kp (bi_need_points T) (fun σ => passAt tk σ) (pa_cons (pv 3) (pa_cons (pv 4) (pa_cons (pv 2) pa_nil)))))
    pss_never)), ?_⟩
  exact ((es_seq (es_asg (ee_call ea_none (fun W => (ak_cons gk_var (ak_cons gk_var ak_nil))))) (fun W => (sk_asg (gk_callZ (ak_cons gk_var (ak_cons gk_var ak_nil))) (gt_tup (gts_cons gt_name (gts_cons gt_name gts_nil)))))
    (es_seq (es_asg (ee_call ea_none (fun W => (ak_cons gk_var (ak_cons gk_var (ak_cons gk_var ak_nil)))))) (fun W => (sk_set (gk_callZ (ak_cons gk_var (ak_cons gk_var (ak_cons gk_var ak_nil))))))
    es_none)) : ES K _ eb_best)
theorem okZ_best (T : Txt K mg) (hP : HPs T P) : FnOk P w K mg base (L2.CX P w) 9 T.best.f T.best.fd pm_best (spZ K r_best e_best) := fnOk_or (ok_best T) (okE_best T hP) (by decide) (by decide)
theorem sc_w_heard : FnScope nm_w_heard pm_w_heard (defScope s_w_heard) := ⟨rfl, rfl, rfl, by decide +kernel, rfl, by decide +kernel, by decide +kernel⟩
theorem bi_w_heard (T : Txt K mg) : Binds K T.w_heard.fd pm_w_heard [] := T.w_heard.F.binds fun _ _ _ _ _ _ us hl => by obtain ⟨_, _, _, rfl⟩ := len3 hl; rfl
theorem ok_w_heard (T : Txt K mg) (hP : HPs T P) : FnOk P w K mg base CX0 10 T.w_heard.f T.w_heard.fd pm_w_heard (spF K r_w_heard) := by
  have nd := sc_w_heard.nd
  refine data_F T.w_heard.F sc_w_heard fun cdv A outer s H E hr => ?_
  refine ⟨_, (pss_cons (ps_set (i := 3) nd rfl (Or.inl rfl) pe_non)
    (pss_cons (ps_tryL (i := 4) rfl rfl nd rfl rfl takes0 (fun W pn xe tk po => (pss_one (ps_expr (pe_callS (okZ_best T hP) (hr.mono (by decide)) rfl T.best.m T.best.F.kp (bi_best T) (fun σ => passAt tk σ) (pa_cons (pv 0) (pa_cons (pv 1) (pa_cons (pv 2) pa_nil))))))) (.cons ⟨rfl, by decide, Or.inl T.X0.m⟩ (fun a oe cls d pn hz hf => pss_one (ps_set (i := 3) nd rfl (Or.inl rfl) (pe_xf T.X0.xf T.X0.txt.na hz hf (pv 4)))) (.cons ⟨rfl, by decide, Or.inl T.X2.m⟩ (fun a oe cls d pn hz hf => pss_one (ps_set (i := 3) nd rfl (Or.inl rfl) (pe_ifExp (PW.pt (pw_and (pt_val (pe_callB (call_isX hz hf) (by rfl) T.isinstance (by decide +kernel) (pa_cons (pv 4) (pa_cons (pe_glob (v := .ref T.XB_BendError.C) (by rfl) T.XB_BendError.m rfl) pa_nil)))) (pw_and1 (pt_not (pt_val (pe_callB (call_isX hz hf) (by rfl) T.isinstance (by decide +kernel) (pa_cons (pv 4) (pa_cons (pe_glob (v := .ref T.XB_InvalidRule.C) (by rfl) T.XB_InvalidRule.m rfl) pa_nil)))))))) (pe_xf T.X2.xf T.X2.txt.na hz hf (pv 4)) pe_str))) .nil)))
    (pss_one (ps_ret (pv 3))))), ?_⟩
  exact ((sk_seq (sk_set gk_non)
    (sk_seq (sk_try (cs := [0, 2]) (fun W => (sk_drop (gk_callZ (ak_cons gk_var (ak_cons gk_var (ak_cons gk_var ak_nil)))))) (es_drop (ee_call ea_none (fun W => (ak_cons gk_var (ak_cons gk_var (ak_cons gk_var ak_nil)))))) (.cons (c := .ref T.X0.C) (te := fun a cls d => (tXf a cls d T.X0.C "word" (tVar 4))) (sel := fun n => n == 0) (f := fun x => (xef x)) ⟨(fun n C hn hC => by
        rcases List.mem_cons.mp hn with rfl | hn
        · obtain rfl := XAt.eq hC T.X0.at_
          exact T.ex_0_0
        rcases List.mem_cons.mp hn with rfl | hn
        · obtain rfl := XAt.eq hC T.X2.at_
          exact T.ex_2_0
        cases hn), (fun x C a d hx hs hC => by
        have e0 : x.c = 0 := by simpa using hs
        rw [e0] at hC
        obtain rfl := XAt.eq hC T.X0.at_
        exact (gx_xef (by rw [e0]; rfl)))⟩ (.cons (c := .ref T.X2.C) (te := fun a cls d => (tIf (tAnd (tB (tCB (rIsX K cls d a) (tCons (tVar 4) (tCons (tC (.ref T.XB_BendError.C)) tNil)))) (tNot (tB (tCB (rIsX K cls d a) (tCons (tVar 4) (tCons (tC (.ref T.XB_InvalidRule.C)) tNil)))))) (tXf a cls d T.X2.C "at" (tVar 4)) (tC (.str "other")))) (sel := fun n => n == 2) (f := fun x => (xif (xtand (xtb true) (xtnot (xtb false))) (xef x) (xc (.str "other")))) ⟨(fun n C hn hC => by
        rcases List.mem_cons.mp hn with rfl | hn
        · obtain rfl := XAt.eq hC T.X0.at_
          exact T.ex_0_2
        rcases List.mem_cons.mp hn with rfl | hn
        · obtain rfl := XAt.eq hC T.X2.at_
          exact T.ex_2_2
        cases hn), (fun x C a d hx hs hC => by
        have e0 : x.c = 2 := by simpa using hs
        rw [e0] at hC
        obtain rfl := XAt.eq hC T.X2.at_
        exact (gx_if (tx_and (tx_isE T.X2.ec T.ki_2_BendError) (tx_not (tx_isE T.X2.ec T.ki_2_InvalidRule))) (gx_xef (by rw [e0]; rfl)) (gx_of gk_str)))⟩ .nil)))
    (sk_ret gk_mv))) : SOk K _ b_w_heard)
theorem sc_w_lowest : FnScope nm_w_lowest pm_w_lowest (defScope s_w_lowest) := ⟨rfl, rfl, rfl, by decide +kernel, rfl, by decide +kernel, by decide +kernel⟩
theorem bi_w_lowest (T : Txt K mg) : Binds K T.w_lowest.fd pm_w_lowest [] := T.w_lowest.F.binds fun _ _ _ _ _ _ us hl => by obtain ⟨_, _, rfl⟩ := len2 hl; rfl
theorem ok_w_lowest (T : Txt K mg) : FnOk P w K mg base CX0 2 T.w_lowest.f T.w_lowest.fd pm_w_lowest (spF K r_w_lowest) := by
  have nd := sc_w_lowest.nd
  refine data_F T.w_lowest.F sc_w_lowest fun cdv A outer s H E hr => ?_
  refine ⟨_, (pss_cons (ps_set (i := 2) nd rfl (Or.inl rfl) (pe_op op_mulA (pe_call (ok_w_divisor T) (hr.mono (by decide)) rfl T.w_divisor.m T.w_divisor.F.kp (bi_w_divisor T) .nil pass0 (pa_cons (pv 0) (pa_cons (pv 1) pa_nil))) (pe_ifExp (pt_cmpR op_gt (pv 1) pe_int (nomark _)) pe_int (pe_op op_subA pe_int pe_int))))
    (pss_one (ps_ret (pe_tup (pa_cons (pe_op op_fdivA (pv 0) (pv 2)) (pa_cons (pe_op op_fdivA (pv 1) (pv 2)) pa_nil)))))), ?_⟩
  exact ((sk_seq (sk_set (gk_op od_mul (gk_call (ak_cons gk_var (ak_cons gk_var ak_nil))) (gk_if (tk_test (gk_op od_gt gk_var gk_int)) gk_int (gk_op od_sub gk_int gk_int))))
    (sk_ret (gk_tup (ak_cons (gk_op od_fdiv gk_var gk_var) (ak_cons (gk_op od_fdiv gk_var gk_var) ak_nil))))) : SOk K _ b_w_lowest)
theorem sc_w_minus : FnScope nm_w_minus pm_w_minus (defScope s_w_minus) := ⟨rfl, rfl, rfl, by decide +kernel, rfl, by decide +kernel, by decide +kernel⟩
theorem bi_w_minus (T : Txt K mg) : Binds K T.w_minus.fd pm_w_minus [] := T.w_minus.F.binds fun _ _ _ _ _ _ us hl => by obtain ⟨_, _, rfl⟩ := len2 hl; rfl
theorem ok_w_minus (T : Txt K mg) : FnOk P w K mg base CX0 3 T.w_minus.f T.w_minus.fd pm_w_minus (spF K r_w_minus) := by
  have nd := sc_w_minus.nd
  refine data_F T.w_minus.F sc_w_minus fun cdv A outer s H E hr => ?_
  refine ⟨_, (pss_one (ps_ret (pe_call (ok_w_lowest T) (hr.mono (by decide)) rfl T.w_lowest.m T.w_lowest.F.kp (bi_w_lowest T) .nil pass0 (pa_cons (pe_op op_subA (pe_op op_mulA (pe_ix (kix (K := K) rfl) (pv 0) pe_int (fun _ _ => rfl)) (pe_ix (kix (K := K) rfl) (pv 1) pe_int (fun _ _ => rfl))) (pe_op op_mulA (pe_ix (kix (K := K) rfl) (pv 1) pe_int (fun _ _ => rfl)) (pe_ix (kix (K := K) rfl) (pv 0) pe_int (fun _ _ => rfl)))) (pa_cons (pe_op op_mulA (pe_ix (kix (K := K) rfl) (pv 0) pe_int (fun _ _ => rfl)) (pe_ix (kix (K := K) rfl) (pv 1) pe_int (fun _ _ => rfl))) pa_nil))))), ?_⟩
  exact ((sk_ret (gk_call (ak_cons (gk_op od_sub (gk_op od_mul (gk_op od_ix gk_var gk_int) (gk_op od_ix gk_var gk_int)) (gk_op od_mul (gk_op od_ix gk_var gk_int) (gk_op od_ix gk_var gk_int))) (ak_cons (gk_op od_mul (gk_op od_ix gk_var gk_int) (gk_op od_ix gk_var gk_int)) ak_nil)))) : SOk K _ b_w_minus)
theorem sc_w_plus : FnScope nm_w_plus pm_w_plus (defScope s_w_plus) := ⟨rfl, rfl, rfl, by decide +kernel, rfl, by decide +kernel, by decide +kernel⟩
theorem bi_w_plus (T : Txt K mg) : Binds K T.w_plus.fd pm_w_plus [] := T.w_plus.F.binds fun _ _ _ _ _ _ us hl => by obtain ⟨_, _, rfl⟩ := len2 hl; rfl
theorem ok_w_plus (T : Txt K mg) : FnOk P w K mg base CX0 3 T.w_plus.f T.w_plus.fd pm_w_plus (spF K r_w_plus) := by
  have nd := sc_w_plus.nd
  refine data_F T.w_plus.F sc_w_plus fun cdv A outer s H E hr => ?_
  refine ⟨_, (pss_one (ps_ret (pe_call (ok_w_lowest T) (hr.mono (by decide)) rfl T.w_lowest.m T.w_lowest.F.kp (bi_w_lowest T) .nil pass0 (pa_cons (pe_op (kop_addB (K := K) rfl) (pe_op op_mulA (pe_ix (kix (K := K) rfl) (pv 0) pe_int (fun _ _ => rfl)) (pe_ix (kix (K := K) rfl) (pv 1) pe_int (fun _ _ => rfl))) (pe_op op_mulA (pe_ix (kix (K := K) rfl) (pv 1) pe_int (fun _ _ => rfl)) (pe_ix (kix (K := K) rfl) (pv 0) pe_int (fun _ _ => rfl)))) (pa_cons (pe_op op_mulA (pe_ix (kix (K := K) rfl) (pv 0) pe_int (fun _ _ => rfl)) (pe_ix (kix (K := K) rfl) (pv 1) pe_int (fun _ _ => rfl))) pa_nil))))), ?_⟩
  exact ((sk_ret (gk_call (ak_cons (gk_op od_addB (gk_op od_mul (gk_op od_ix gk_var gk_int) (gk_op od_ix gk_var gk_int)) (gk_op od_mul (gk_op od_ix gk_var gk_int) (gk_op od_ix gk_var gk_int))) (ak_cons (gk_op od_mul (gk_op od_ix gk_var gk_int) (gk_op od_ix gk_var gk_int)) ak_nil)))) : SOk K _ b_w_plus)
theorem sc_w_times : FnScope nm_w_times pm_w_times (defScope s_w_times) := ⟨rfl, rfl, rfl, by decide +kernel, rfl, by decide +kernel, by decide +kernel⟩
theorem bi_w_times (T : Txt K mg) : Binds K T.w_times.fd pm_w_times [] := T.w_times.F.binds fun _ _ _ _ _ _ us hl => by obtain ⟨_, _, rfl⟩ := len2 hl; rfl
theorem ok_w_times (T : Txt K mg) : FnOk P w K mg base CX0 3 T.w_times.f T.w_times.fd pm_w_times (spF K r_w_times) := by
  have nd := sc_w_times.nd
  refine data_F T.w_times.F sc_w_times fun cdv A outer s H E hr => ?_
  refine ⟨_, (pss_one (ps_ret (pe_call (ok_w_lowest T) (hr.mono (by decide)) rfl T.w_lowest.m T.w_lowest.F.kp (bi_w_lowest T) .nil pass0 (pa_cons (pe_op op_mulA (pe_ix (kix (K := K) rfl) (pv 0) pe_int (fun _ _ => rfl)) (pe_ix (kix (K := K) rfl) (pv 1) pe_int (fun _ _ => rfl))) (pa_cons (pe_op op_mulA (pe_ix (kix (K := K) rfl) (pv 0) pe_int (fun _ _ => rfl)) (pe_ix (kix (K := K) rfl) (pv 1) pe_int (fun _ _ => rfl))) pa_nil))))), ?_⟩
  exact ((sk_ret (gk_call (ak_cons (gk_op od_mul (gk_op od_ix gk_var gk_int) (gk_op od_ix gk_var gk_int)) (ak_cons (gk_op od_mul (gk_op od_ix gk_var gk_int) (gk_op od_ix gk_var gk_int)) ak_nil)))) : SOk K _ b_w_times)
theorem sc_w_point : FnScope nm_w_point pm_w_point (defScope s_w_point) := ⟨rfl, rfl, rfl, by decide +kernel, rfl, by decide +kernel, by decide +kernel⟩
theorem bi_w_point (T : Txt K mg) : Binds K T.w_point.fd pm_w_point [] := T.w_point.F.binds fun _ _ _ _ _ _ us hl => by obtain ⟨_, _, _, rfl⟩ := len3 hl; rfl
theorem ok_w_point (T : Txt K mg) : FnOk P w K mg base CX0 4 T.w_point.f T.w_point.fd pm_w_point (spB K r_w_point) := by
  have nd := sc_w_point.nd
  refine data_B T.w_point.F sc_w_point fun cdv A outer s H E hr => ?_
  refine ⟨_, (pss_cons (ps_set (i := 3) nd rfl (Or.inl rfl) (pe_call (ok_w_one_of T) (hr.mono (by decide)) rfl T.w_one_of.m T.w_one_of.F.kp (bi_w_one_of T) .nil pass0 (pa_cons (pv 0) (pa_cons (pe_lst (pa_cons (pe_tup (pa_cons pe_int (pa_cons pe_int pa_nil))) (pa_cons (pe_tup (pa_cons pe_int (pa_cons pe_int pa_nil))) (pa_cons (pe_tup (pa_cons pe_int (pa_cons pe_int pa_nil))) (pa_cons (pe_tup (pa_cons pe_int (pa_cons pe_int pa_nil))) (pa_cons (pe_tup (pa_cons pe_int (pa_cons pe_int pa_nil))) (pa_cons (pe_tup (pa_cons pe_int (pa_cons pe_int pa_nil))) (pa_cons (pe_tup (pa_cons pe_int (pa_cons pe_int pa_nil))) pa_nil)))))))) pa_nil))))
    (pss_one (ps_ret (pe_call (ok_w_plus T) (hr.mono (by decide)) rfl T.w_plus.m T.w_plus.F.kp (bi_w_plus T) .nil pass0 (pa_cons (pv 1) (pa_cons (pe_call (ok_w_times T) (hr.mono (by decide)) rfl T.w_times.m T.w_times.F.kp (bi_w_times T) .nil pass0 (pa_cons (pv 3) (pa_cons (pe_call (ok_w_minus T) (hr.mono (by decide)) rfl T.w_minus.m T.w_minus.F.kp (bi_w_minus T) .nil pass0 (pa_cons (pv 2) (pa_cons (pv 1) pa_nil))) pa_nil))) pa_nil)))))), ?_⟩
  exact ((sk_seq (sk_set (gk_callB (ak_cons (gk_lst (ak_cons (gk_tup (ak_cons gk_int (ak_cons gk_int ak_nil))) (ak_cons (gk_tup (ak_cons gk_int (ak_cons gk_int ak_nil))) (ak_cons (gk_tup (ak_cons gk_int (ak_cons gk_int ak_nil))) (ak_cons (gk_tup (ak_cons gk_int (ak_cons gk_int ak_nil))) (ak_cons (gk_tup (ak_cons gk_int (ak_cons gk_int ak_nil))) (ak_cons (gk_tup (ak_cons gk_int (ak_cons gk_int ak_nil))) (ak_cons (gk_tup (ak_cons gk_int (ak_cons gk_int ak_nil))) ak_nil)))))))) ak_nil)))
    (sk_ret (gk_call (ak_cons gk_var (ak_cons (gk_call (ak_cons gk_var (ak_cons (gk_call (ak_cons gk_var (ak_cons gk_var ak_nil))) ak_nil))) ak_nil))))) : SOk K _ b_w_point)
theorem sc_w_rising : FnScope nm_w_rising pm_w_rising (defScope s_w_rising) := ⟨rfl, rfl, rfl, by decide +kernel, rfl, by decide +kernel, by decide +kernel⟩
theorem bi_w_rising (T : Txt K mg) : Binds K T.w_rising.fd pm_w_rising [] := T.w_rising.F.binds fun _ _ _ _ _ _ us hl => by obtain ⟨_, rfl⟩ := len1 hl; rfl
theorem ok_w_rising (T : Txt K mg) : FnOk P w K mg base CX0 2 T.w_rising.f T.w_rising.fd pm_w_rising (spF K r_w_rising) := by
  have nd := sc_w_rising.nd
  refine data_F T.w_rising.F sc_w_rising fun cdv A outer s H E hr => ?_
  refine ⟨_, (pss_cons (ps_set (i := 1) nd rfl (Or.inl rfl) (pe_lst pa_nil))
    (pss_cons (ps_for PassesOwn.never rfl (kpi_seq (K := K) rfl (pv 0)) (pg_name (i := 2) nd rfl (Or.inr rfl)) (pss_cons (ps_setLc (i := 3) (own := [("_law_other", 4)]) rfl nd rfl rfl (sw_true rfl rfl rfl (by decide +kernel)) (kpi_seq (K := K) rfl (pv 1)) (blkOk_by (N := nm_w_rising) (sc := defScope s_w_rising) (by decide +kernel)) (fun _ _ _ _ _ => (pg_name (i := 4) nd rfl (Or.inl rfl))) (fun _ _ _ _ _ => (pts_one (kpt_tru (K := K) rfl (pe_call (ok_w_less T) (hr.mono (by decide)) rfl T.w_less.m T.w_less.F.kp (bi_w_less T) .nil pass0 (pa_cons (pv 4) (pa_cons (pv 2) pa_nil))) (by intro _; rfl)))) (fun _ _ _ _ _ => (pv 4)))
    (pss_one (ps_if (pt_cmpR (kop_notInB (K := K) rfl (r70 hr)) (pv 2) (pv 1) (by rfl)) (pss_one (ps_set (i := 1) nd rfl (Or.inl rfl) (pe_op (kop_addB (K := K) rfl) (pe_op (kop_addB (K := K) rfl) (pv 3) (pe_lst (pa_cons (pv 2) pa_nil))) (pe_slice (ksl_B (K := K) rfl) (pv 1) (po_some (pe_callB (kcr_len (K := K) rfl) (by rfl) T.len (by decide +kernel) (pa_cons (pv 3) pa_nil))) po_none)))) pss_nil))))
    (pss_one (ps_ret (pv 1))))), ?_⟩
  exact ((sk_seq (sk_set (gk_lst ak_nil))
    (sk_seq (sk_for (ik_seq gk_var) gt_name ((sk_seq (sk_set (gk_lc (ik_seq gk_var) gt_name (tk_truK (gk_call (ak_cons gk_var (ak_cons gk_var ak_nil)))) gk_var (by decide)))
    (sk_if (tk_test (gk_op od_inB gk_var gk_var)) (sk_set (gk_op od_addB (gk_op od_addB gk_var (gk_lst (ak_cons gk_var ak_nil))) (gk_sl sd_B gk_var (pk_some (gk_cb cd_len (ak_cons gk_var ak_nil))) pk_none))) sk_next)) : SOk K _ b_w_rising_1))
    (sk_ret gk_mv))) : SOk K _ b_w_rising)
theorem sc_w_points : FnScope nm_w_points pm_w_points (defScope s_w_points) := ⟨rfl, rfl, rfl, by decide +kernel, rfl, by decide +kernel, by decide +kernel⟩
theorem bi_w_points (T : Txt K mg) : Binds K T.w_points.fd pm_w_points [] := T.w_points.F.binds fun _ _ _ _ _ _ us hl => by obtain ⟨_, _, _, _, rfl⟩ := len4 hl; rfl
theorem ok_w_points (T : Txt K mg) : FnOk P w K mg base CX0 5 T.w_points.f T.w_points.fd pm_w_points (spB K r_w_points) := by
  have nd := sc_w_points.nd
  refine data_B T.w_points.F sc_w_points fun cdv A outer s H E hr => ?_
  refine ⟨_, (pss_cons (ps_setLc (i := 4) (own := [("_law_turn", 5)]) rfl nd rfl rfl (sw_true rfl rfl rfl (by decide +kernel)) (pi_range1 rfl T.range (pa_cons (pe_op (kop_addB (K := K) rfl) pe_int (pe_call (ok_w_choose T) (hr.mono (by decide)) rfl T.w_choose.m T.w_choose.F.kp (bi_w_choose T) .nil pass0 (pa_cons (pv 0) (pa_cons (pv 3) pa_nil)))) pa_nil)) (blkOk_by (N := nm_w_points) (sc := defScope s_w_points) (by decide +kernel)) (fun _ _ _ _ _ => (pg_name (i := 5) nd rfl (Or.inl rfl))) (fun _ _ _ _ _ => pts_nil) (fun _ _ _ _ _ => (pe_call (ok_w_point T) (hr.mono (by decide)) rfl T.w_point.m T.w_point.F.kp (bi_w_point T) .nil pass0 (pa_cons (pv 0) (pa_cons (pv 1) (pa_cons (pv 2) pa_nil))))))
    (pss_one (ps_ret (pe_call (ok_w_rising T) (hr.mono (by decide)) rfl T.w_rising.m T.w_rising.F.kp (bi_w_rising T) .nil pass0 (pa_cons (pv 4) pa_nil))))), ?_⟩
  exact ((sk_seq (sk_set (gk_lc (ik_range1 (ak_cons (gk_op od_addB gk_int (gk_callB (ak_cons gk_var ak_nil))) ak_nil)) gt_name tk_yes (gk_callB (ak_cons gk_var (ak_cons gk_var ak_nil))) (by decide)))
    (sk_ret (gk_call (ak_cons gk_var ak_nil)))) : SOk K _ b_w_points)
theorem sc_w_seed : FnScope nm_w_seed pm_w_seed (defScope s_w_seed) := ⟨rfl, rfl, rfl, by decide +kernel, rfl, by decide +kernel, by decide +kernel⟩
theorem bi_w_seed (T : Txt K mg) : Binds K T.w_seed.fd pm_w_seed [] := T.w_seed.F.binds fun _ _ _ _ _ _ us hl => by obtain ⟨_, _, rfl⟩ := len2 hl; rfl
theorem ok_w_seed (T : Txt K mg) : FnOk P w K mg base CX0 1 T.w_seed.f T.w_seed.fd pm_w_seed (spF K r_w_seed) := by
  have nd := sc_w_seed.nd
  refine data_F T.w_seed.F sc_w_seed fun cdv A outer s H E hr => ?_
  refine ⟨_, (pss_cons (ps_set (i := 2) nd rfl (Or.inl rfl) (pe_ifExp (pt_cmpR op_lt (pv 1) (pe_callB (kcr_len (K := K) rfl) (by rfl) T.len (by decide +kernel) (pa_cons (pv 0) pa_nil)) (nomark _)) (pe_callB cr_abs (by rfl) T.abs (by decide +kernel) (pa_cons (pe_callTy cr_int (by rfl) T.int (by decide +kernel) (pa_cons (pe_ix (kix (K := K) rfl) (pv 0) (pv 1) (fun _ _ => rfl)) pa_nil)) pa_nil)) pe_int))
    (pss_cons (ps_set (i := 3) nd rfl (Or.inl rfl) (pe_op (kop_addB (K := K) rfl) pe_int (pe_op op_mulA pe_int (pv 1))))
    (pss_cons (ps_for PassesOwn.never rfl (kpi_seq (K := K) rfl (pe_slice (ksl_B (K := K) rfl) (pv 0) po_none (po_some pe_int))) (pg_name (i := 4) nd rfl (Or.inl rfl)) (pss_one (ps_set (i := 3) nd rfl (Or.inl rfl) (pe_op op_modA (pe_callTy cr_int (by rfl) T.int (by decide +kernel) (pa_cons (pe_op (kop_addB (K := K) rfl) (pe_op (kop_addB (K := K) rfl) (pe_op op_mulA (pv 3) pe_int) (pe_op op_modA (pe_callTy cr_int (by rfl) T.int (by decide +kernel) (pa_cons (pe_callB cr_abs (by rfl) T.abs (by decide +kernel) (pa_cons (pv 4) pa_nil)) pa_nil)) pe_int)) pe_int) pa_nil)) pe_int))))
    (pss_one (ps_ret (pe_lst (pa_cons (pe_ifExp (pt_cmpR op_ge (pv 2) (pe_op op_powA pe_int pe_int) (nomark _)) (pv 2) pe_int) (pa_cons (pv 3) (pa_cons pe_int pa_nil))))))))), ?_⟩
  exact ((sk_seq (sk_set (gk_if (tk_test (gk_op od_lt gk_var (gk_cb cd_len (ak_cons gk_var ak_nil)))) (gk_cb cd_abs (ak_cons (gk_cb cd_int (ak_cons (gk_op od_ix gk_var gk_var) ak_nil)) ak_nil)) gk_int))
    (sk_seq (sk_set (gk_op od_addB gk_int (gk_op od_mul gk_int gk_var)))
    (sk_seq (sk_for (ik_seq (gk_sl sd_B gk_var pk_none (pk_some gk_int))) gt_name ((sk_set (gk_op od_mod (gk_cb cd_int (ak_cons (gk_op od_addB (gk_op od_addB (gk_op od_mul gk_var gk_int) (gk_op od_mod (gk_cb cd_int (ak_cons (gk_cb cd_abs (ak_cons gk_var ak_nil)) ak_nil)) gk_int)) gk_int) ak_nil)) gk_int)) : SOk K _ b_w_seed_1))
    (sk_ret (gk_lst (ak_cons (gk_if (tk_test (gk_op od_ge gk_var (gk_op od_pow gk_int gk_int))) gk_var gk_int) (ak_cons gk_var (ak_cons gk_int ak_nil)))))))) : SOk K _ b_w_seed)
theorem sc_w_fraction : FnScope nm_w_fraction pm_w_fraction (defScope s_w_fraction) := ⟨rfl, rfl, rfl, by decide +kernel, rfl, by decide +kernel, by decide +kernel⟩
theorem bi_w_fraction (T : Txt K mg) : Binds K T.w_fraction.fd pm_w_fraction [] := T.w_fraction.F.binds fun _ _ _ _ _ _ us hl => by obtain ⟨_, _, _, rfl⟩ := len3 hl; rfl
theorem ok_w_fraction (T : Txt K mg) : FnOk P w K mg base CX0 3 T.w_fraction.f T.w_fraction.fd pm_w_fraction (spB K r_w_fraction) := by
  have nd := sc_w_fraction.nd
  refine data_B T.w_fraction.F sc_w_fraction fun cdv A outer s H E hr => ?_
  refine ⟨_, (pss_one (ps_ret (pe_call (ok_w_lowest T) (hr.mono (by decide)) rfl T.w_lowest.m T.w_lowest.F.kp (bi_w_lowest T) .nil pass0 (pa_cons (pe_op op_subA (pe_call (ok_w_choose T) (hr.mono (by decide)) rfl T.w_choose.m T.w_choose.F.kp (bi_w_choose T) .nil pass0 (pa_cons (pv 0) (pa_cons (pe_op (kop_addB (K := K) rfl) (pe_op op_mulA pe_int (pv 1)) pe_int) pa_nil))) (pv 1)) (pa_cons (pe_op (kop_addB (K := K) rfl) pe_int (pe_call (ok_w_choose T) (hr.mono (by decide)) rfl T.w_choose.m T.w_choose.F.kp (bi_w_choose T) .nil pass0 (pa_cons (pv 0) (pa_cons (pv 2) pa_nil)))) pa_nil))))), ?_⟩
  exact ((sk_ret (gk_call (ak_cons (gk_op od_sub (gk_callB (ak_cons (gk_op od_addB (gk_op od_mul gk_int gk_var) gk_int) ak_nil)) gk_var) (ak_cons (gk_op od_addB gk_int (gk_callB (ak_cons gk_var ak_nil))) ak_nil)))) : SOk K _ b_w_fraction)
theorem sc_w_stretch : FnScope nm_w_stretch pm_w_stretch (defScope s_w_stretch) := ⟨rfl, rfl, rfl, by decide +kernel, rfl, by decide +kernel, by decide +kernel⟩
theorem bi_w_stretch (T : Txt K mg) : Binds K T.w_stretch.fd pm_w_stretch [] := T.w_stretch.F.binds fun _ _ _ _ _ _ us hl => by obtain ⟨_, rfl⟩ := len1 hl; rfl
theorem ok_w_stretch (T : Txt K mg) : FnOk P w K mg base CX0 4 T.w_stretch.f T.w_stretch.fd pm_w_stretch (spB K r_w_stretch) := by
  have nd := sc_w_stretch.nd
  refine data_B T.w_stretch.F sc_w_stretch fun cdv A outer s H E hr => ?_
  refine ⟨_, (pss_cons (ps_set (i := 1) nd rfl (Or.inl rfl) (pe_call (ok_w_fraction T) (hr.mono (by decide)) rfl T.w_fraction.m T.w_fraction.F.kp (bi_w_fraction T) .nil pass0 (pa_cons (pv 0) (pa_cons pe_int (pa_cons pe_int pa_nil)))))
    (pss_one (ps_ret (pe_tup (pa_cons (pv 1) (pa_cons (pe_call (ok_w_plus T) (hr.mono (by decide)) rfl T.w_plus.m T.w_plus.F.kp (bi_w_plus T) .nil pass0 (pa_cons (pv 1) (pa_cons (pe_call (ok_w_one_of T) (hr.mono (by decide)) rfl T.w_one_of.m T.w_one_of.F.kp (bi_w_one_of T) .nil pass0 (pa_cons (pv 0) (pa_cons (pe_lst (pa_cons (pe_tup (pa_cons pe_int (pa_cons pe_int pa_nil))) (pa_cons (pe_tup (pa_cons pe_int (pa_cons pe_int pa_nil))) (pa_cons (pe_tup (pa_cons pe_int (pa_cons pe_int pa_nil))) (pa_cons (pe_tup (pa_cons pe_int (pa_cons pe_int pa_nil))) (pa_cons (pe_tup (pa_cons pe_int (pa_cons pe_int pa_nil))) (pa_cons (pe_tup (pa_cons pe_int (pa_cons pe_int pa_nil))) pa_nil))))))) pa_nil))) pa_nil))) pa_nil)))))), ?_⟩
  exact ((sk_seq (sk_set (gk_callB (ak_cons gk_int (ak_cons gk_int ak_nil))))
    (sk_ret (gk_tup (ak_cons gk_var (ak_cons (gk_call (ak_cons gk_var (ak_cons (gk_callB (ak_cons (gk_lst (ak_cons (gk_tup (ak_cons gk_int (ak_cons gk_int ak_nil))) (ak_cons (gk_tup (ak_cons gk_int (ak_cons gk_int ak_nil))) (ak_cons (gk_tup (ak_cons gk_int (ak_cons gk_int ak_nil))) (ak_cons (gk_tup (ak_cons gk_int (ak_cons gk_int ak_nil))) (ak_cons (gk_tup (ak_cons gk_int (ak_cons gk_int ak_nil))) (ak_cons (gk_tup (ak_cons gk_int (ak_cons gk_int ak_nil))) ak_nil))))))) ak_nil)) ak_nil))) ak_nil))))) : SOk K _ b_w_stretch)
theorem sc_law : FnScope nm_law pm_law (defScope s_law) := ⟨rfl, rfl, rfl, by decide +kernel, rfl, by decide +kernel, by decide +kernel⟩
theorem ok_law (T : Txt K mg) (hP : HPs T P) {s : Shared} {H : Hp} {a : Addr} {Q : VK} (e0 : Env0 P w K mg base callerA [] s H) (bd0 : BindsTo s T.law.fd ⟨[.ref a], []⟩ [("_law_script", .ref a)]) (q : spF K r_law [.ref a] H Q E0) :
    codeAny (model P w) callerA (.call (.ref T.law.f) ⟨[.ref a], []⟩) (CR CX0 [] P w H s Q E0) s := by
  have nd := sc_law.nd
  refine call_law (k := 10) T.law.F sc_law ⟨rfl, by decide, by decide⟩ (fun cdv s H E hg hr => ?_) e0 bd0 q
  refine ⟨_, (pss_cons (ps_for PassesOwn.never rfl (pi_range1 rfl T.range (pa_cons (pe_callB (cr_max2 rfl) (by rfl) T.max (by decide +kernel) (pa_cons pe_int (pa_cons (pe_callB (cr_min2 rfl) (by rfl) T.min (by decide +kernel) (pa_cons pe_int (pa_cons (pe_callB (kcr_len (K := K) rfl) (by rfl) T.len (by decide +kernel) (pa_cons (pv 0) pa_nil)) pa_nil))) pa_nil))) pa_nil)) (pg_name (i := 1) nd rfl (Or.inl rfl)) (pss_cons (ps_set (i := 2) nd rfl (Or.inl rfl) (pe_call (ok_w_seed T) (hr.mono (by decide)) rfl T.w_seed.m T.w_seed.F.kp (bi_w_seed T) .nil pass0 (pa_cons (pv 0) (pa_cons (pv 1) pa_nil))))
    (pss_one (ps_for PassesOwn.never rfl (pi_range1 rfl T.range (pa_cons pe_int pa_nil)) (pg_name (i := 3) nd rfl (Or.inl rfl)) (pss_cons (ps_asg (pe_call (ok_w_stretch T) (hr.mono (by decide)) rfl T.w_stretch.m T.w_stretch.F.kp (bi_w_stretch T) .nil pass0 (pa_cons (pv 2) pa_nil)) (kpg_tup (K := K) (n := 2) rfl rfl (pgs_cons (pg_name (i := 4) nd rfl (Or.inl rfl)) (pgs_cons (pg_name (i := 5) nd rfl (Or.inl rfl)) pgs_nil))))
    (pss_cons (ps_set (i := 6) nd rfl (Or.inl rfl) (pe_call (ok_w_points T) (hr.mono (by decide)) rfl T.w_points.m T.w_points.F.kp (bi_w_points T) .nil pass0 (pa_cons (pv 2) (pa_cons (pv 4) (pa_cons (pv 5) (pa_cons pe_int pa_nil))))))
    (pss_cons (ps_if (pt_cmpR op_isNotA (pe_call (ok_w_heard T hP) (hr.mono (by decide)) rfl T.w_heard.m T.w_heard.F.kp (bi_w_heard T) .nil pass0 (pa_cons (pv 4) (pa_cons (pv 5) (pa_cons (pv 6) pa_nil)))) pe_non (nomark _)) (pss_one (ps_ret pe_bl)) pss_nil)
    (pss_cons (ps_set (i := 7) nd rfl (Or.inl rfl) (pe_call (ok_w_choose T) (hr.mono (by decide)) rfl T.w_choose.m T.w_choose.F.kp (bi_w_choose T) .nil pass0 (pa_cons (pv 2) (pa_cons (pe_op (kop_addB (K := K) rfl) (pe_callB (kcr_len (K := K) rfl) (by rfl) T.len (by decide +kernel) (pa_cons (pv 6) pa_nil)) pe_int) pa_nil))))
    (pss_cons (ps_set (i := 8) nd rfl (Or.inl rfl) (pe_lst (pa_cons pe_non (pa_cons pe_bl (pa_cons pe_str (pa_cons (pe_tup (pa_cons pe_int (pa_cons pe_int pa_nil))) (pa_cons (pe_tup (pa_cons pe_int (pa_cons pe_int pa_nil))) (pa_cons (pe_lst (pa_cons pe_int (pa_cons pe_int pa_nil))) (pa_cons (pe_tup (pa_cons pe_int (pa_cons (pe_un un_neg pe_int) pa_nil))) (pa_cons (pv 4) (pa_cons (pv 5) pa_nil)))))))))))
    (pss_cons (ps_set (i := 8) nd rfl (Or.inl rfl) (pe_op (kop_addB (K := K) rfl) (pv 8) (pe_lst (pa_cons (pe_call (ok_w_plus T) (hr.mono (by decide)) rfl T.w_plus.m T.w_plus.F.kp (bi_w_plus T) .nil pass0 (pa_cons (pv 5) (pa_cons (pe_tup (pa_cons pe_int (pa_cons pe_int pa_nil))) pa_nil))) (pa_cons (pe_call (ok_w_minus T) (hr.mono (by decide)) rfl T.w_minus.m T.w_minus.F.kp (bi_w_minus T) .nil pass0 (pa_cons (pv 4) (pa_cons (pe_tup (pa_cons pe_int (pa_cons pe_int pa_nil))) pa_nil))) pa_nil)))))
    (pss_cons (ps_set (i := 8) nd rfl (Or.inl rfl) (pe_op (kop_addB (K := K) rfl) (pv 8) (pe_lst (pa_cons (pe_call (ok_w_point T) (hr.mono (by decide)) rfl T.w_point.m T.w_point.F.kp (bi_w_point T) .nil pass0 (pa_cons (pv 2) (pa_cons (pv 4) (pa_cons (pv 5) pa_nil)))) (pa_cons (pe_call (ok_w_anything T) (hr.mono (by decide)) rfl T.w_anything.m T.w_anything.F.kp (bi_w_anything T) .nil pass0 (pa_cons (pv 2) (pa_cons pe_int pa_nil))) (pa_cons (pe_tup (pa_cons (pv 4) (pa_cons pe_int pa_nil))) (pa_cons (pe_make T.mk_Rule (ok_Rule_init T) (hr.mono (by decide)) rfl T.Rule.mg (bi_Rule_init_3 T).choose_spec.2 (bi_Rule_init_3 T).choose_spec.1 pass0 (pa_cons pe_int (pa_cons pe_int pa_nil))) pa_nil)))))))
    (pss_cons (ps_set (i := 9) nd rfl (Or.inl rfl) (pe_op (kop_addB (K := K) rfl) (pe_op (kop_addB (K := K) rfl) (pe_slice (ksl_B (K := K) rfl) (pv 6) po_none (po_some (pv 7))) (pe_lst (pa_cons (pe_call (ok_w_one_of T) (hr.mono (by decide)) rfl T.w_one_of.m T.w_one_of.F.kp (bi_w_one_of T) .nil pass0 (pa_cons (pv 2) (pa_cons (pv 8) pa_nil))) pa_nil))) (pe_slice (ksl_B (K := K) rfl) (pv 6) (po_some (pv 7)) po_none)))
    (pss_cons (ps_if (pt_cmpR (kop_ne (K := K) rfl hr.units) (pe_callB (kcr_repr (K := K) rfl hg (r70 hr)) (by rfl) T.repr (by decide +kernel) (pa_cons (pe_call (ok_w_heard T hP) (hr.mono (by decide)) rfl T.w_heard.m T.w_heard.F.kp (bi_w_heard T) .nil pass0 (pa_cons (pv 4) (pa_cons (pv 5) (pa_cons (pv 9) pa_nil)))) pa_nil)) (pe_callB (kcr_repr (K := K) rfl hg (r70 hr)) (by rfl) T.repr (by decide +kernel) (pa_cons (pe_call (ok_w_due T) (hr.mono (by decide)) rfl T.w_due.m T.w_due.F.kp (bi_w_due T) .nil pass0 (pa_cons (pv 9) (pa_cons (pv 4) (pa_cons (pv 5) pa_nil)))) pa_nil)) (nomark _)) (pss_one (ps_ret pe_bl)) pss_nil)
    (pss_cons (ps_set (i := 10) nd rfl (Or.inl rfl) (kpe_revA (K := K) rfl (pv 6) (pe_op op_subA pe_int pe_int)))
    (pss_cons (ps_if (pt_cmpR (kop_ne (K := K) rfl hr.units) (pe_call (ok_w_heard T hP) (hr.mono (by decide)) rfl T.w_heard.m T.w_heard.F.kp (bi_w_heard T) .nil pass0 (pa_cons (pv 4) (pa_cons (pv 5) (pa_cons (pe_callTy (kcr_tuple (K := K) rfl) (by rfl) T.tuple (by decide +kernel) (pa_cons (pv 10) pa_nil)) pa_nil)))) (pe_call (ok_w_due T) (hr.mono (by decide)) rfl T.w_due.m T.w_due.F.kp (bi_w_due T) .nil pass0 (pa_cons (pv 10) (pa_cons (pv 4) (pa_cons (pv 5) pa_nil)))) (nomark _)) (pss_one (ps_ret pe_bl)) pss_nil)
    (pss_cons (ps_if (pt_cmpR (kop_ne (K := K) rfl hr.units) (pe_call (ok_w_heard T hP) (hr.mono (by decide)) rfl T.w_heard.m T.w_heard.F.kp (bi_w_heard T) .nil pass0 (pa_cons (pv 4) (pa_cons (pv 5) (pa_cons (pe_op (kop_addB (K := K) rfl) (pv 6) (pe_slice (ksl_B (K := K) rfl) (pv 6) (po_some (pe_un un_neg pe_int)) po_none)) pa_nil)))) (pe_callB (kcr_len (K := K) rfl) (by rfl) T.len (by decide +kernel) (pa_cons (pv 6) pa_nil)) (nomark _)) (pss_one (ps_ret pe_bl)) pss_nil)
    (pss_cons (ps_for PassesOwn.never rfl (kpi_seq (K := K) rfl (pe_tup (pa_cons pe_non (pa_cons pe_int (pa_cons pe_str (pa_cons pe_str (pa_cons (pe_lst pa_nil) (pa_cons (pe_tup pa_nil) (pa_cons pe_bl (pa_cons (pv 4) pa_nil)))))))))) (pg_name (i := 11) nd rfl (Or.inl rfl)) (pss_one (ps_if (pt_cmpR (kop_ne (K := K) rfl hr.units) (pe_callB (kcr_repr (K := K) rfl hg (r70 hr)) (by rfl) T.repr (by decide +kernel) (pa_cons (pe_call (ok_w_heard T hP) (hr.mono (by decide)) rfl T.w_heard.m T.w_heard.F.kp (bi_w_heard T) .nil pass0 (pa_cons (pv 4) (pa_cons (pv 5) (pa_cons (pv 11) pa_nil)))) pa_nil)) (pe_callB (kcr_repr (K := K) rfl hg (r70 hr)) (by rfl) T.repr (by decide +kernel) (pa_cons (pe_call (ok_w_due T) (hr.mono (by decide)) rfl T.w_due.m T.w_due.F.kp (bi_w_due T) .nil pass0 (pa_cons (pv 11) (pa_cons (pv 4) (pa_cons (pv 5) pa_nil)))) pa_nil)) (nomark _)) (pss_one (ps_ret pe_bl)) pss_nil)))
    (pss_cons (ps_if (PW.pt (pw_or (pt_cmpR (kop_ne (K := K) rfl hr.units) (pe_call (ok_w_heard T hP) (hr.mono (by decide)) rfl T.w_heard.m T.w_heard.F.kp (bi_w_heard T) .nil pass0 (pa_cons (pv 5) (pa_cons (pv 4) (pa_cons (pe_lst (pa_cons pe_non pa_nil)) pa_nil)))) pe_str (nomark _)) (pw_or1 (pt_cmpR (kop_ne (K := K) rfl hr.units) (pe_call (ok_w_heard T hP) (hr.mono (by decide)) rfl T.w_heard.m T.w_heard.F.kp (bi_w_heard T) .nil pass0 (pa_cons pe_non (pa_cons (pv 5) (pa_cons (pe_lst pa_nil) pa_nil)))) pe_str (nomark _))))) (pss_one (ps_ret pe_bl)) pss_nil)
    (pss_one (ps_if (pt_cmpR (kop_ne (K := K) rfl hr.units) (pe_call (ok_w_heard T hP) (hr.mono (by decide)) rfl T.w_heard.m T.w_heard.F.kp (bi_w_heard T) .nil pass0 (pa_cons (pv 4) (pa_cons (pv 4) (pa_cons (pv 6) pa_nil)))) pe_str (nomark _)) (pss_one (ps_ret pe_bl)) pss_nil))))))))))))))))))))
    (pss_one (ps_ret pe_bl))), ?_⟩
  exact ((sk_seq (sk_for (ik_range1 (ak_cons (gk_cb cd_max2 (ak_cons gk_int (ak_cons (gk_cb cd_min2 (ak_cons gk_int (ak_cons (gk_cb cd_len (ak_cons gk_var ak_nil)) ak_nil))) ak_nil))) ak_nil)) gt_name ((sk_seq (sk_set (gk_call (ak_cons gk_var (ak_cons gk_var ak_nil))))
    (sk_for (ik_range1 (ak_cons gk_int ak_nil)) gt_name ((sk_seq (sk_asg (gk_callB ak_nil) (gt_tup (gts_cons gt_name (gts_cons gt_name gts_nil))))
    (sk_seq (sk_set (gk_callB (ak_cons gk_var (ak_cons gk_var (ak_cons gk_int ak_nil)))))
    (sk_seq (sk_if (tk_test (gk_op od_isNot (gk_call (ak_cons gk_var (ak_cons gk_var (ak_cons gk_var ak_nil)))) gk_non)) (sk_ret gk_bl) sk_next)
    (sk_seq (sk_set (gk_callB (ak_cons (gk_op od_addB (gk_cb cd_len (ak_cons gk_var ak_nil)) gk_int) ak_nil)))
    (sk_seq (sk_set (gk_lst (ak_cons gk_non (ak_cons gk_bl (ak_cons gk_str (ak_cons (gk_tup (ak_cons gk_int (ak_cons gk_int ak_nil))) (ak_cons (gk_tup (ak_cons gk_int (ak_cons gk_int ak_nil))) (ak_cons (gk_lst (ak_cons gk_int (ak_cons gk_int ak_nil))) (ak_cons (gk_tup (ak_cons gk_int (ak_cons (gk_un ud_neg gk_int) ak_nil))) (ak_cons gk_var (ak_cons gk_var ak_nil)))))))))))
    (sk_seq (sk_set (gk_op od_addB gk_var (gk_lst (ak_cons (gk_call (ak_cons gk_var (ak_cons (gk_tup (ak_cons gk_int (ak_cons gk_int ak_nil))) ak_nil))) (ak_cons (gk_call (ak_cons gk_var (ak_cons (gk_tup (ak_cons gk_int (ak_cons gk_int ak_nil))) ak_nil))) ak_nil)))))
    (sk_seq (sk_set (gk_op od_addB gk_var (gk_lst (ak_cons (gk_callB (ak_cons gk_var (ak_cons gk_var ak_nil))) (ak_cons (gk_callB (ak_cons gk_int ak_nil)) (ak_cons (gk_tup (ak_cons gk_var (ak_cons gk_int ak_nil))) (ak_cons (gk_make T.Rule (fun H => (drs_drop (T.Rule_init.d H) 0)) (ak_cons gk_int (ak_cons gk_int ak_nil))) ak_nil)))))))
    (sk_seq (sk_set (gk_op od_addB (gk_op od_addB (gk_sl sd_B gk_var pk_none (pk_some gk_var)) (gk_lst (ak_cons (gk_callB (ak_cons gk_var ak_nil)) ak_nil))) (gk_sl sd_B gk_var (pk_some gk_var) pk_none)))
    (sk_seq (sk_if (tk_test (gk_op od_ne (gk_cb cd_repr (ak_cons (gk_call (ak_cons gk_var (ak_cons gk_var (ak_cons gk_var ak_nil)))) ak_nil)) (gk_cb cd_repr (ak_cons (gk_call (ak_cons gk_var (ak_cons gk_var (ak_cons gk_var ak_nil)))) ak_nil)))) (sk_ret gk_bl) sk_next)
    (sk_seq (sk_set (gk_revA gk_var (gk_op od_sub gk_int gk_int)))
    (sk_seq (sk_if (tk_test (gk_op od_ne (gk_call (ak_cons gk_var (ak_cons gk_var (ak_cons (gk_cb cd_tuple (ak_cons gk_var ak_nil)) ak_nil)))) (gk_call (ak_cons gk_var (ak_cons gk_var (ak_cons gk_var ak_nil)))))) (sk_ret gk_bl) sk_next)
    (sk_seq (sk_if (tk_test (gk_op od_ne (gk_call (ak_cons gk_var (ak_cons gk_var (ak_cons (gk_op od_addB gk_var (gk_sl sd_B gk_var (pk_some (gk_un ud_neg gk_int)) pk_none)) ak_nil)))) (gk_cb cd_len (ak_cons gk_var ak_nil)))) (sk_ret gk_bl) sk_next)
    (sk_seq (sk_for (ik_seq (gk_tup (ak_cons gk_non (ak_cons gk_int (ak_cons gk_str (ak_cons gk_str (ak_cons (gk_lst ak_nil) (ak_cons (gk_tup ak_nil) (ak_cons gk_bl (ak_cons gk_var ak_nil)))))))))) gt_name ((sk_if (tk_test (gk_op od_ne (gk_cb cd_repr (ak_cons (gk_call (ak_cons gk_var (ak_cons gk_var (ak_cons gk_var ak_nil)))) ak_nil)) (gk_cb cd_repr (ak_cons (gk_call (ak_cons gk_var (ak_cons gk_var (ak_cons gk_var ak_nil)))) ak_nil)))) (sk_ret gk_bl) sk_next) : SOk K _ b_law_1))
    (sk_seq (sk_if (tk_or (tk_test (gk_op od_ne (gk_call (ak_cons gk_var (ak_cons gk_var (ak_cons (gk_lst (ak_cons gk_non ak_nil)) ak_nil)))) gk_str)) (tk_test (gk_op od_ne (gk_call (ak_cons gk_non (ak_cons gk_var (ak_cons (gk_lst ak_nil) ak_nil)))) gk_str))) (sk_ret gk_bl) sk_next)
    (sk_if (tk_test (gk_op od_ne (gk_call (ak_cons gk_var (ak_cons gk_var (ak_cons gk_var ak_nil)))) gk_str)) (sk_ret gk_bl) sk_next))))))))))))))) : SOk K _ b_law_2))) : SOk K _ b_law_3))
    (sk_ret gk_bl)) : SOk K _ b_law)
end
end Bk
namespace Bk
open PySem L2
theorem runF_eq {k n : Nat} {b : MS} {ds : List D} (h : ds.length = k) : runF k n b ds = outF (b (pad n ds)) := if_pos h
theorem xseq_nx {s t : MS} {G G1 : Gam} (h : s G = some (.nx, G1)) : xseq s t G = t G1 := by
  unfold xseq
  rw [h]
theorem xseq_rt {s t : MS} {G G1 : Gam} {r : R} (h : s G = some (.rt r, G1)) : xseq s t G = some (.rt r, G1) := by
  unfold xseq
  rw [h]
theorem xset_ok {i : Nat} {a : M R} {G G1 : Gam} {r : R} (h : a G = some (r, G1)) : xset i a G = some (.nx, G1.set i r.ent) := by
  unfold xset
  rw [h]
  rfl
theorem xset_e {i : Nat} {a : M R} {G G1 G2 : Gam} {r : R} (h : a G = some (r, G1)) (e : G1.set i r.ent = G2) : xset i a G = some (.nx, G2) := e ▸ xset_ok h
theorem xret_ok {a : M R} {G G1 : Gam} {r : R} (h : a G = some (r, G1)) : xret a G = some (.rt r, G1) := by
  unfold xret
  rw [h]
  rfl
theorem xcall_ok {m : List D → Option R} {a : M (List D)} {G G1 : Gam} {xs : List D} {r : R} (h : a G = some (xs, G1)) (hm : m xs = some r) : xcall m a G = some (r, G1) := by
  unfold xcall
  rw [h]
  simp only [bd_some, hm]
theorem xcons_ok {a : M R} {b : M (List D)} {G G1 G2 : Gam} {r : R} {xs : List D} (h : a G = some (r, G1)) (hb : b G1 = some (xs, G2)) : xcons a b G = some (r.d :: xs, G2) := by
  unfold xcons
  rw [h]
  simp only [bd_some, hb]
theorem xnil_ok {G : Gam} : xnil G = some ([], G) := rfl
theorem runF_st {k n : Nat} {b : MS} {ds : List D} {o : Option R} (hl : ds.length = k) (h : outF (b (pad n ds)) = o) : runF k n b ds = o := (runF_eq hl).trans h
theorem st_nx {s t : MS} {G G1 : Gam} {o : Option R} (h : s G = some (.nx, G1)) (k : outF (t G1) = o) : outF (xseq s t G) = o := (congrArg outF (xseq_nx h)).trans k
theorem st_ret {a : M R} {G G1 : Gam} {r : R} (h : a G = some (r, G1)) : outF (xret a G) = some r := congrArg outF (xret_ok h)
theorem runB_st {k n : Nat} {b : MS} {bs : Mob} {ds : List D} {o : Option (R × Mob)} (hl : ds.length + 1 = k) (h : outB (b (.bx bs :: pad (n - 1) ds)) = o) : runB k n b bs ds = o := (if_pos hl).trans h
theorem sb_nx {s t : MS} {G G1 : Gam} {o : Option (R × Mob)} (h : s G = some (.nx, G1)) (k : outB (t G1) = o) : outB (xseq s t G) = o := (congrArg outB (xseq_nx h)).trans k
theorem sb_rt {s t : MS} {G G1 : Gam} {r : R} {o : Option (R × Mob)} (h : s G = some (.rt r, G1)) (k : outB (some (.rt r, G1)) = o) : outB (xseq s t G) = o := (congrArg outB (xseq_rt h)).trans k
theorem st_rt {s t : MS} {G G1 : Gam} {r : R} (h : s G = some (.rt r, G1)) : outF (xseq s t G) = some r := congrArg outF (xseq_rt h)
theorem sb_ret {a : M R} {G G1 : Gam} {r : R} {bs' : Mob} (h : a G = some (r, .bx bs' :: G1)) : outB (xret a G) = some (r, bs') := congrArg outB (xret_ok h)
theorem xop_ok {o : D → D → Option R} {a b : M R} {G G1 G2 : Gam} {x y r : R} (ha : a G = some (x, G1)) (hb : b G1 = some (y, G2)) (h : o x.d y.d = some r) : xop o a b G = some (r, G2) := by
  unfold xop
  rw [ha]
  simp only [bd_some, hb, h]
theorem xc1 {a : M R} {b : M (List D)} {G G1 G2 : Gam} {d : D} {xs : List D} (h : a G = some (.im d, G1)) (hb : b G1 = some (xs, G2)) : xcons a b G = some (d :: xs, G2) := xcons_ok h hb
theorem xcw {a : M R} {b : M (List D)} {G G1 G2 : Gam} {ds : List D} {xs : List D} (h : a G = some (.ol ds, G1)) (hb : b G1 = some (xs, G2)) : xcons a b G = some (.lst ds :: xs, G2) := xcons_ok h hb
theorem xo2 {o : D → D → Option R} {a b : M R} {G G1 G2 : Gam} {x y : D} {r : R} (ha : a G = some (.im x, G1)) (hb : b G1 = some (.im y, G2)) (h : o x y = some r) : xop o a b G = some (r, G2) := xop_ok ha hb h
theorem xlst_ok {a : M (List D)} {G G1 : Gam} {xs : List D} (h : a G = some (xs, G1)) (hf : few xs.length = true) : xlst a G = some (.ol xs, G1) := by
  unfold xlst
  rw [h]
  simp only [bd_some, hf]
  rfl
theorem xcallB_ok {m : Mob → List D → Option (R × Mob)} {i : Nat} {a : M (List D)} {G G1 G2 : Gam} {xs : List D} {bs bs' : Mob} {e : Ent} {r : R} (h0 : isMu G i = true) (h : a G = some (xs, G1)) (hi : G1[i]? = some e) (he : e.mu = some bs) (hm : m bs xs = some (r, bs')) (e2 : G1.set i (e.with bs') = G2) : xcallB m i a G = some (r, G2) := by
  unfold xcallB
  rw [if_pos h0, h]
  simp only [bd_some]
  unfold callB
  simp only [hi, he, hm, e2]
theorem xapp_ok {i : Nat} {a : M R} {G G1 G2 : Gam} {r : R} {bs : List D} {e : Ent} (h0 : isLst G i = true) (h : a G = some (r, G1)) (hi : G1[i]? = some e) (he : e.mu = some (.l bs)) (hf : bs.length ≤ 100000) (e2 : G1.set i (e.with (.l (bs ++ [r.d]))) = G2) : xapp i a G = some (.nx, G2) := by
  unfold xapp
  rw [if_pos h0, h]
  simp only [bd_some]
  unfold app
  simp only [hi, he]
  rw [if_pos (show few bs.length = true from decide_eq_true (Nat.le_trans hf (by decide))), e2]
theorem xif_ok {t : M Bool} {a b : M R} {G G1 : Gam} {k : Bool} (h : t G = some (k, G1)) : xif t a b G = if k then a G1 else b G1 := by
  unfold xif
  rw [h]
  rfl
theorem xvand_t {a b : M R} {G G1 : Gam} {o : Option (R × Gam)} (h : a G = some (.im (.bl true), G1)) (h2 : b G1 = o) : xvand a b G = o := by
  unfold xvand
  rw [h]
  exact h2
theorem xvand_f {a b : M R} {G G1 : Gam} (h : a G = some (.im (.bl false), G1)) : xvand a b G = some (.im (.bl false), G1) := by
  unfold xvand
  rw [h]
  rfl
theorem xtest_ok {a : M R} {G G1 : Gam} {k : Bool} (h : a G = some (.im (.bl k), G1)) : xtest a G = some (k, G1) := by
  unfold xtest
  rw [h]
  rfl
theorem atI_ok {α : Type} {xs : List α} {i : Int} (h : 0 ≤ i) (h1 : i < xs.length) : ∃ x, atI xs i = some x ∧ x ∈ xs := by
  have h2 : i.toNat < xs.length := by omega
  refine ⟨xs[i.toNat], ?_, List.getElem_mem h2⟩
  unfold atI ixN
  rw [if_pos h, if_pos h1]
  exact List.getElem?_eq_getElem h2
theorem xcb_ok {o : List D → Option R} {a : M (List D)} {G G1 : Gam} {xs : List D} {r : R} (h : a G = some (xs, G1)) (ho : o xs = some r) : xcb o a G = some (r, G1) := by
  unfold xcb
  rw [h]
  simp only [bd_some, ho]
theorem xtup_ok {a : M (List D)} {G G1 : Gam} {xs : List D} (h : a G = some (xs, G1)) (hf : few xs.length = true) : xtup a G = some (.im (.tup xs), G1) := by
  unfold xtup
  rw [h]
  simp only [bd_some, hf]
  rfl
theorem xifs_ok {t : M Bool} {a b : MS} {G G1 : Gam} {k : Bool} (h : t G = some (k, G1)) : xifs t a b G = if k then a G1 else b G1 := by
  unfold xifs
  rw [h]
  rfl
theorem xforL_nx {tg : D → Gam → Option Gam} {b : MS} {d : D} {ds : List D} {G G1 G2 : Gam} (h1 : tg d G = some G1) (h2 : b G1 = some (.nx, G2)) : xforL tg b (d :: ds) G = xforL tg b ds G2 := by
  conv => lhs; unfold xforL
  rw [h1]
  simp only [h2]
/-- a loop whose turns keep a word -/
theorem xforL_inv {tg : D → Gam → Option Gam} {b : MS} (Inv : Gam → Prop) : ∀ {ds : List D} {G : Gam}, Inv G → (∀ d ∈ ds, ∀ G, Inv G → ∃ G1 G2, tg d G = some G1 ∧ (b G1 = some (.nx, G2) ∨ b G1 = some (.ct, G2)) ∧ Inv G2) →
    ∃ G', xforL tg b ds G = some (.nx, G') ∧ Inv G'
  | [], G, h, _ => ⟨G, rfl, h⟩
  | d :: ds, G, h, step => by
    obtain ⟨G1, G2, h1, h2, h3⟩ := step d List.mem_cons_self G h
    obtain ⟨G', h4, h5⟩ := xforL_inv Inv h3 fun e he => step e (List.mem_cons_of_mem _ he)
    refine ⟨G', ?_, h5⟩
    unfold xforL
    rw [h1]
    rcases h2 with h2 | h2
    · simp only [h2]; exact h4
    · simp only [h2]; exact h4
/-- a loop with a count -/
theorem xforL_cnt {tg : D → Gam → Option Gam} {b : MS} (St : Nat → Gam → Prop) (N : Nat) : ∀ {ds : List D} {n : Nat} {G : Gam}, St n G → (∀ d ∈ ds, ∀ n G, n < N → St n G → ∃ G1 G2, tg d G = some G1 ∧ b G1 = some (.nx, G2) ∧ St (n + 1) G2) → n + ds.length ≤ N →
    ∃ G', xforL tg b ds G = some (.nx, G') ∧ St (n + ds.length) G'
  | [], n, G, h, _, _ => ⟨G, rfl, h⟩
  | d :: ds, n, G, h, step, hn => by
    rw [List.length_cons] at hn
    obtain ⟨G1, G2, h1, h2, h3⟩ := step d List.mem_cons_self n G (by omega) h
    obtain ⟨G', h4, h5⟩ := xforL_cnt St N h3 (fun e he => step e (List.mem_cons_of_mem _ he)) (by omega)
    refine ⟨G', (xforL_nx h1 h2).trans h4, ?_⟩
    rw [List.length_cons]
    have : n + (ds.length + 1) = n + 1 + ds.length := by omega
    rw [this]
    exact h5
/-- a comprehension without a test, whose turns change nothing else -/
theorem xlcL_map {tg : D → Gam → Option Gam} {e : M R} {vs : List Nat} {G : Gam} (f : D → D) : ∀ {ds : List D}, (∀ d ∈ ds, ∃ G1 r G2, tg d G = some G1 ∧ e G1 = some (r, G2) ∧ r.d = f d ∧ wipeG G2 vs = G) → xlcL tg xtyes e vs ds G = some (ds.map f, G)
  | [], _ => rfl
  | d :: ds, h => by
    obtain ⟨G1, r, G2, h1, h2, h3, h4⟩ := h d List.mem_cons_self
    unfold xlcL
    rw [h1]
    simp only [xtyes, bd_some, h2, h4]
    rw [if_pos True.intro, xlcL_map f fun e he => h e (List.mem_cons_of_mem _ he)]
    simp only [bd_some, h3, List.map_cons]
theorem rng_mem {lo : Int} {n : Nat} {d : D} (h : d ∈ rng lo n) : ∃ i : Nat, i < n ∧ d = .int (lo + (i : Int)) := by
  obtain ⟨i, hi, rfl⟩ := List.mem_map.mp h
  exact ⟨i, List.mem_range.mp hi, rfl⟩
theorem rng_ln {lo : Int} {n : Nat} : (rng lo n).length = n := by simp [rng]
theorem okR_of {m : Int} (h : -1000000 < m) (h1 : m < 1000000) : okR m = true := by
  unfold okR
  rw [Bool.and_eq_true]
  exact ⟨decide_eq_true (by omega), decide_eq_true (by omega)⟩
theorem xlc_ok {it : M (List D)} {tg : D → Gam → Option Gam} {t : M Bool} {e : M R} {vs : List Nat} {G G1 G2 : Gam} {ds out : List D} (h1 : it G = some (ds, G1)) (h2 : noMu G1 vs = true) (h3 : xlcL tg t e vs ds (wipeG G1 vs) = some (out, G2)) (h4 : few out.length = true) :
    xlc it tg t e vs G = some (.ol out, unw G1 G2 vs) := by
  unfold xlc
  rw [h1]
  simp only [bd_some]
  rw [if_pos h2, h3]
  simp only [bd_some, h4]
  rfl
theorem o_mul {i j : Int} (h : okMul i j = true) : opMul (.int i) (.int j) = some (.im (.int (i * j))) := if_pos h
theorem o_div {i j : Int} (h : okDiv j = true) : opFdiv (.int i) (.int j) = some (.im (.int (i.fdiv j))) := if_pos h
theorem o_mod {i j : Int} (h : j ≠ 0) : opMod (.int i) (.int j) = some (.im (.int (i.fmod j))) := if_pos (decide_eq_true h)
theorem o_pow {i j : Int} (h : okPow i j = true) : opPow (.int i) (.int j) = some (.im (.int (i ^ j.toNat))) := if_pos h
def Sm (i : Int) (k : Nat) : Prop := i.natAbs < 2 ^ k
theorem Sm.up {i : Int} {k l : Nat} (h : Sm i k) (hk : k ≤ l) : Sm i l := Nat.lt_of_lt_of_le h (Nat.pow_le_pow_right (by decide) hk)
theorem Sm.mul {i j : Int} {k l : Nat} (h : Sm i k) (h' : Sm j l) : Sm (i * j) (k + l) := by
  unfold Sm
  rw [Int.natAbs_mul, Nat.pow_add]
  exact Nat.mul_lt_mul'' h h'
theorem Sm.add {i j : Int} {k : Nat} (h : Sm i k) (h' : Sm j k) : Sm (i + j) (k + 1) := by
  unfold Sm at *
  rw [Nat.pow_succ]
  have := Int.natAbs_add_le i j
  omega
theorem Sm.sub {i j : Int} {k : Nat} (h : Sm i k) (h' : Sm j k) : Sm (i - j) (k + 1) := by
  unfold Sm at *
  rw [Nat.pow_succ]
  have := Int.natAbs_sub_le i j
  omega
theorem Sm.log {i : Int} {k : Nat} (h : Sm i k) (hk : 0 < k) : i.natAbs.log2 < k := by
  by_cases z : i.natAbs = 0
  · rw [z]; exact hk
  · exact (Nat.log2_lt z).mpr h
theorem Sm.okMul {i j : Int} {k l : Nat} (h : Sm i k) (h' : Sm j l) (hk : k + l ≤ 900000) : okMul i j = true := by
  have h1 := (h.up (Nat.le_succ k)).log (Nat.succ_pos k)
  have h2 := (h'.up (Nat.le_succ l)).log (Nat.succ_pos l)
  unfold Bk.okMul
  exact decide_eq_true (by omega)
theorem Sm.okDiv {i : Int} {k : Nat} (h : Sm i k) (h0 : i ≠ 0) (hk : k < 9000) : okDiv i = true := by
  have h1 := (h.up (Nat.le_succ k)).log (Nat.succ_pos k)
  unfold Bk.okDiv
  rw [Bool.and_eq_true]
  exact ⟨decide_eq_true h0, decide_eq_true (by omega)⟩
theorem div_loop (c : M Bool) (b : MS) (hc : ∀ x y : Nat, c [.im (.int x), .im (.int y)] = some (!decide ((y : Int) = 0), [.im (.int x), .im (.int y)]))
    (hb : ∀ x y : Nat, 0 < y → b [.im (.int x), .im (.int y)] = some (.nx, [.im (.int y), .im (.int ((x % y : Nat) : Int))])) :
    ∀ (n x y : Nat), y < n → xwhileN c b n [.im (.int x), .im (.int y)] = some (.nx, [.im (.int (Nat.gcd x y : Nat)), .im (.int 0)])
  | 0, _, _, h => absurd h (Nat.not_lt_zero _)
  | n + 1, x, y, h => by
    unfold xwhileN
    rw [hc]
    simp only [bd_some]
    by_cases z : y = 0
    · subst z
      simp
    · have z' : ¬ (y : Int) = 0 := by omega
      rw [decide_eq_false z']
      rw [hb x y (by omega)]
      simp only [Bool.not_false, if_true]
      have hl : x % y < y := Nat.mod_lt _ (by omega)
      rw [div_loop c b hc hb n y (x % y) (by omega), Nat.gcd_comm x y, Nat.gcd_rec y x, Nat.gcd_comm]
theorem abs_nat (i : Int) : (if i < 0 then -i else i) = (i.natAbs : Int) := by
  split <;> omega
theorem fmod_nat (x y : Nat) : (x : Int).fmod (y : Int) = ((x % y : Nat) : Int) := by
  rw [Int.fmod_eq_emod_of_nonneg _ (Int.natCast_nonneg y)]
  rfl
def vq (q : Rat) : D := .tup [.int q.num, .int (q.den : Int)]
/-- numerator and denominator -/
def Ht (q : Rat) (k : Nat) : Prop := Sm q.num k ∧ Sm (q.den : Int) k
theorem Ht.up {q : Rat} {k l : Nat} (h : Ht q k) (hk : k ≤ l) : Ht q l := ⟨h.1.up hk, h.2.up hk⟩
theorem natAbs_ediv_le {n g : Int} (hd : g ∣ n) : (n / g).natAbs ≤ n.natAbs := by
  obtain ⟨c, rfl⟩ := hd
  by_cases z : g = 0
  · subst z; simp
  · rw [Int.mul_ediv_cancel_left c z, Int.natAbs_mul]
    exact Nat.le_mul_of_pos_left _ (by omega)
theorem ht_divInt {n d : Int} {k : Nat} (hd : d ≠ 0) (hn : Sm n k) (hk : Sm d k) : Ht (Rat.divInt n d) k := by
  constructor
  · rw [Rat.num_divInt]
    refine Nat.lt_of_le_of_lt (natAbs_ediv_le ?_) ?_
    · exact Int.dvd_trans (Int.gcd_dvd_right d n) (Int.dvd_mul_left _ _)
    · rw [Int.natAbs_mul]
      have : d.sign.natAbs = 1 := by
        rcases Int.lt_or_gt_of_ne hd with h | h
        · rw [Int.sign_eq_neg_one_of_neg h]; rfl
        · rw [Int.sign_eq_one_of_pos h]; rfl
      rw [this, Nat.one_mul]
      exact hn
  · rw [Rat.den_divInt, if_neg hd]
    unfold Sm at *
    rw [Int.natAbs_natCast]
    exact Nat.lt_of_le_of_lt (Nat.div_le_self _ _) hk
/-- what lowest reckons -/
theorem low_num {n d : Int} (hd : d ≠ 0) : n.fdiv (if d < 0 then -((Nat.gcd n.natAbs d.natAbs : Nat) : Int) else ((Nat.gcd n.natAbs d.natAbs : Nat) : Int)) = (Rat.divInt n d).num := by
  have e : (Nat.gcd n.natAbs d.natAbs) = d.gcd n := by rw [Nat.gcd_comm]; rfl
  have hdv : ((d.gcd n : Nat) : Int) ∣ n := Int.gcd_dvd_right d n
  rw [Rat.num_divInt, e]
  split
  · rename_i h
    rw [Int.fdiv_eq_ediv_of_dvd (Int.neg_dvd.mpr hdv), Int.sign_eq_neg_one_of_neg h, Int.ediv_neg, Int.neg_mul, Int.one_mul, Int.neg_ediv_of_dvd hdv]
  · rename_i h
    have h : 0 < d := by omega
    rw [Int.fdiv_eq_ediv_of_dvd hdv, Int.sign_eq_one_of_pos h, Int.one_mul]
theorem low_den {n d : Int} (hd : d ≠ 0) : d.fdiv (if d < 0 then -((Nat.gcd n.natAbs d.natAbs : Nat) : Int) else ((Nat.gcd n.natAbs d.natAbs : Nat) : Int)) = ((Rat.divInt n d).den : Int) := by
  have e : (Nat.gcd n.natAbs d.natAbs) = d.gcd n := by rw [Nat.gcd_comm]; rfl
  have hdv : ((d.gcd n : Nat) : Int) ∣ d := Int.gcd_dvd_left d n
  rw [Rat.den_divInt, if_neg hd, e, Int.natCast_ediv]
  split
  · rename_i h
    rw [Int.fdiv_eq_ediv_of_dvd (Int.neg_dvd.mpr hdv), Int.ediv_neg, ← Int.neg_ediv_of_dvd hdv]
    congr 1
    omega
  · rename_i h
    rw [Int.fdiv_eq_ediv_of_dvd hdv]
    congr 1
    omega
theorem divInt_self (q : Rat) : Rat.divInt q.num (q.den : Int) = q := by
  rw [Rat.divInt_ofNat]
  exact Rat.mkRat_self q
theorem den_ne (q : Rat) : (q.den : Int) ≠ 0 := by
  have := q.den_nz
  omega
theorem add_divInt (a b : Rat) : Rat.divInt (a.num * b.den + b.num * a.den) (a.den * b.den) = a + b := by
  rw [← Rat.divInt_add_divInt _ _ (den_ne a) (den_ne b), divInt_self, divInt_self]
theorem mul_divInt (a b : Rat) : Rat.divInt (a.num * b.num) (a.den * b.den) = a * b := by
  rw [← Rat.divInt_mul_divInt, divInt_self, divInt_self]
theorem sub_divInt (a b : Rat) : Rat.divInt (a.num * b.den - b.num * a.den) (a.den * b.den) = a - b := by
  rw [← Rat.divInt_sub_divInt _ _ (den_ne a) (den_ne b), divInt_self, divInt_self]
theorem Ht.mul {a b : Rat} {k l : Nat} (h : Ht a k) (h' : Ht b l) : Ht (a * b) (k + l) := by
  rw [← mul_divInt]
  exact ht_divInt (Int.mul_ne_zero (den_ne a) (den_ne b)) (h.1.mul h'.1) (h.2.mul h'.2)
theorem Ht.add {a b : Rat} {k l : Nat} (h : Ht a k) (h' : Ht b l) : Ht (a + b) (k + l + 1) := by
  rw [← add_divInt]
  have h1 := h.1.mul h'.2
  have h2 := h'.1.mul h.2
  rw [Nat.add_comm l k] at h2
  exact ht_divInt (Int.mul_ne_zero (den_ne a) (den_ne b)) (h1.add h2) ((h.2.mul h'.2).up (Nat.le_succ _))
theorem Ht.sub {a b : Rat} {k l : Nat} (h : Ht a k) (h' : Ht b l) : Ht (a - b) (k + l + 1) := by
  rw [← sub_divInt]
  have h1 := h.1.mul h'.2
  have h2 := h'.1.mul h.2
  rw [Nat.add_comm l k] at h2
  exact ht_divInt (Int.mul_ne_zero (den_ne a) (den_ne b)) (h1.sub h2) ((h.2.mul h'.2).up (Nat.le_succ _))
theorem Ht.int {i : Int} {k : Nat} (h : Sm i k) (hk : 0 < k) : Ht (i : Rat) k := ⟨h, by
  show (1 : Int).natAbs < 2 ^ k
  exact Nat.one_lt_two_pow (by omega)⟩
/-- a number or a pair -/
def IsV (d : D) (q : Rat) : Prop := (∃ i : Int, d = .int i ∧ q = (i : Rat)) ∨ d = vq q
end Bk
namespace Bk
open PySem L2
theorem xfor_ok {it : M (List D)} {tg : D → Gam → Option Gam} {b : MS} {G G1 : Gam} {ds : List D} {o : Option (Fl × Gam)} (h : it G = some (ds, G1)) (h2 : xforL tg b ds G1 = o) : xfor it tg b G = o := by
  unfold xfor
  rw [h]
  exact h2
theorem xseqI_ok {a : M R} {G G1 : Gam} {d : D} {ds : List D} (h : a G = some (.im d, G1)) (hd : seqD d = some ds) : xseqI a G = some (ds, G1) := by
  unfold xseqI
  rw [h]
  simp only [bd_some, R.d, hd]
theorem xzip_ok {a : M (List D)} {G G1 : Gam} {x y : D} {ds es : List D} (h : a G = some ([x, y], G1)) (h1 : seqD x = some ds) (h2 : seqD y = some es) : xzipA a G = some ((ds.zip es).map fun p => .tup [p.1, p.2], G1) := by
  unfold xzipA
  rw [h]
  simp only [bd_some, h1, h2]
theorem xrange1_ok {a : M (List D)} {G G1 : Gam} {n : Int} (h : a G = some ([.int n], G1)) (h1 : okR n = true) : xrange1 a G = some (rng 0 n.toNat, G1) := by
  unfold xrange1
  rw [h]
  simp only [bd_some]
  rw [if_pos h1]
def valQ : D → Rat
  | .int i => (i : Rat)
  | .tup [.int n, .int d] => Rat.divInt n d
  | _ => 0
def IsV1 (d : D) : Prop := (∃ i, d = .int i) ∨ ∃ q, d = vq q
def sumQ (qs : List Rat) : Rat := qs.foldl (· + ·) 0
theorem ht0 : Ht 0 1 := by
  constructor
  · show (0 : Int).natAbs < 2 ^ 1; decide
  · show (1 : Int).natAbs < 2 ^ 1; decide
theorem foldl_ht {k : Nat} : ∀ (qs : List Rat) (a : Rat) (l : Nat), Ht a l → (∀ q ∈ qs, Ht q k) → Ht (qs.foldl (· + ·) a) (l + qs.length * (k + 1))
  | [], a, l, h, _ => by simpa using h
  | q :: qs, a, l, h, hq => by
    have h1 := foldl_ht qs (a + q) (l + k + 1) (h.add (hq q List.mem_cons_self)) fun r hr => hq r (List.mem_cons_of_mem _ hr)
    rw [List.foldl_cons]
    refine h1.up ?_
    rw [List.length_cons, Nat.add_mul]
    omega
theorem sumQ_ht {k : Nat} {qs : List Rat} (hq : ∀ q ∈ qs, Ht q k) : Ht (sumQ qs) (1 + qs.length * (k + 1)) := foldl_ht qs 0 1 ht0 hq
abbrev AddOk (m : List D → Option R) : Prop := ∀ (a b : Rat) (k l : Nat), Ht a k → Ht b l → k + l < 8990 → m [vq a, vq b] = some (.im (vq (a + b)))
theorem sum_loop {m : List D → Option R} (hm : AddOk m) {x0 : Ent} {k : Nat} : ∀ (qs : List Rat) (a : Rat) (l : Nat) (e : Ent), Ht a l → (∀ q ∈ qs, Ht q k) → l + qs.length * (k + 1) + k < 8990 →
    ∃ e', xforL (tgn 2) (xset 1 (xcall m (xcons (xv 1) (xcons (xv 2) xnil)))) (qs.map vq) [x0, .im (vq a), e] = some (.nx, [x0, .im (vq (qs.foldl (· + ·) a)), e'])
  | [], a, l, e, _, _, _ => ⟨e, rfl⟩
  | q :: qs, a, l, e, h, hq, h9 => by
    have hq0 := hq q List.mem_cons_self
    rw [List.length_cons, Nat.add_mul] at h9
    obtain ⟨e', h1⟩ := sum_loop hm qs (a + q) (l + k + 1) (.im (vq q)) (h.add hq0) (fun r hr => hq r (List.mem_cons_of_mem _ hr)) (by omega)
    refine ⟨e', ?_⟩
    rw [List.map_cons, List.foldl_cons, ← h1]
    exact xforL_nx rfl (xset_e (xcall_ok (xc1 rfl (xc1 rfl xnil_ok)) (hm a q l k h hq0 (by omega))) rfl)
/-- two rows, item by item, a value made of each two -/
def f2 (g : Rat → Rat → Rat) : D → D
  | .tup [x, y] => vq (g (valQ x) (valQ y))
  | d => d
def pyq (q : Rat) : PyData := .tuple [.int q.num, .int (q.den : Int)]
theorem toPys_vq : ∀ qs : List Rat, toPys (qs.map vq) = some (qs.map pyq)
  | [] => rfl
  | q :: qs => by
    rw [List.map_cons, toPys, toPys_vq qs]
    rfl
theorem leaf_short {i : Int} {k : Nat} (h : Sm i k) (hk : 0 < k) : PyData.leavesShort (k + 1) (.int i) = true := by
  have := int_text_length_le hk (h.log hk)
  rw [PyData.leavesShort]
  refine decide_eq_true ?_
  show (Str.ofString (toString i)).length ≤ k + 1
  rw [ofString_length]
  exact this
theorem weight_int {i : Int} {k : Nat} (h : Sm i k) (hk : 0 < k) : PyData.weight (.int i) ≤ k := by
  have := h.log hk
  rw [PyData.weight]
  split <;> omega
theorem pyq_ok {k : Nat} (hk : 8 ≤ k) (h9 : k < 1900) : ∀ {qs : List Rat}, (∀ q ∈ qs, Ht q k) → PyData.leavesShortAll (k + 1) (qs.map pyq) = true ∧ PyData.weightAll (qs.map pyq) ≤ qs.length * (2 * k + 3) ∧ PyData.showableAll (qs.map pyq) = true ∧ PyData.depthAll (qs.map pyq) ≤ 1 ∧ PyData.hasDictAll (qs.map pyq) = false ∧ PyData.canLayAll0 (qs.map pyq) = true
  | [], _ => ⟨rfl, by simp [PyData.weightAll], rfl, by simp [PyData.depthAll], rfl, rfl⟩
  | q :: qs, h => by
    obtain ⟨h1, h2, h3, h4, h5, h6⟩ := pyq_ok hk h9 fun r hr => h r (List.mem_cons_of_mem _ hr)
    have hq := h q List.mem_cons_self
    have a1 := leaf_short hq.1 (by omega)
    have a2 := leaf_short hq.2 (by omega)
    have b1 := weight_int hq.1 (by omega)
    have b2 := weight_int hq.2 (by omega)
    have c1 := hq.1.log (by omega)
    have c2 := hq.2.log (by omega)
    refine ⟨?_, ?_, ?_, ?_, ?_, ?_⟩
    · simp [pyq, PyData.leavesShortAll, PyData.leavesShort, h1] at a1 a2 ⊢
      exact ⟨a1, a2⟩
    · rw [List.map_cons, List.length_cons, Nat.add_mul]
      simp only [pyq, PyData.weightAll]
      rw [PyData.weight]
      simp only [PyData.weightAll]
      omega
    · simp [pyq, PyData.showableAll, PyData.showable, h3] at c1 c2 ⊢
      omega
    · simp only [List.map_cons, pyq, PyData.depthAll, PyData.depth]
      omega
    · simp [pyq, PyData.hasDictAll, PyData.hasDict, h5]
    · simp [pyq, PyData.canLayAll0, PyData.canLay0, h6]
theorem fmod_lt (a : Int) {b : Int} (h : 0 < b) : 0 ≤ a.fmod b ∧ a.fmod b < b := ⟨Int.fmod_nonneg_of_pos a h, Int.fmod_lt_of_pos a h⟩
def Ln (k : Nat) (out : List D) : Prop := ∀ x ∈ out, IsV1 x ∧ Ht (valQ x) k
theorem Ln.nil {k : Nat} : Ln k [] := fun _ h => nomatch h
theorem Ln.push {k : Nat} {out : List D} {d : D} (h : Ln k out) (hd : IsV1 d ∧ Ht (valQ d) k) : Ln k (out ++ [d]) := fun x hx => by
  rcases List.mem_append.mp hx with h1 | h1
  · exact h x h1
  · rw [List.mem_singleton.mp h1]; exact hd
theorem Ln.len {k : Nat} {ds : List D} (h : Ln k ds) : ∀ x ∈ ds, IsV1 x := fun x hx => (h x hx).1
end Bk
namespace Bk
open PySem L2
theorem ycons_ok {a : M R} {b : M (List R)} {G G1 G2 : Gam} {r : R} {xs : List R} (h : a G = some (r, G1)) (hb : b G1 = some (xs, G2)) : ycons a b G = some (r :: xs, G2) := by
  unfold ycons
  rw [h]
  simp only [bd_some, hb]
theorem ynil_ok {G : Gam} : ynil G = some ([], G) := rfl
theorem ypar_ok {i j : Nat} {a : M (List R)} {G G1 : Gam} {x y : R} (h : a G = some ([x, y], G1)) : ypar i j a G = some (.nx, (G1.set i x.ent).set j y.ent) := by
  unfold ypar
  rw [h]
  rfl
theorem xvor_f {a b : M R} {G G1 : Gam} (h : a G = some (.im (.bl false), G1)) : xvor a b G = b G1 := by
  unfold xvor
  rw [h]
  rfl
theorem xvnot_ok {a : M R} {G G1 : Gam} {k : Bool} (h : a G = some (.im (.bl k), G1)) : xvnot a G = some (.im (.bl (!k)), G1) := by
  unfold xvnot
  rw [h]
  rfl
theorem xtru_ok {a : M R} {G G1 : Gam} {k : Bool} {x : R} (h : a G = some (x, G1)) (ht : truth x.d = some k) : xtru a G = some (k, G1) := by
  unfold xtru
  rw [h]
  simp only [bd_some, ht]
theorem xtrub {a : M R} {G G1 : Gam} {k : Bool} (h : a G = some (.im (.bl k), G1)) : xtru a G = some (k, G1) := xtru_ok h rfl
theorem xtnot_ok {a : M Bool} {G G1 : Gam} {k : Bool} (h : a G = some (k, G1)) : xtnot a G = some (!k, G1) := by
  unfold xtnot
  rw [h]
  rfl
theorem xtand_t {a b : M Bool} {G G1 : Gam} (h : a G = some (true, G1)) : xtand a b G = b G1 := by
  unfold xtand
  rw [h]
  rfl
theorem xtand_f {a b : M Bool} {G G1 : Gam} (h : a G = some (false, G1)) : xtand a b G = some (false, G1) := by
  unfold xtand
  rw [h]
  rfl
theorem xtor_t {a b : M Bool} {G G1 : Gam} (h : a G = some (true, G1)) : xtor a b G = some (true, G1) := by
  unfold xtor
  rw [h]
  rfl
theorem xtor_f {a b : M Bool} {G G1 : Gam} (h : a G = some (false, G1)) : xtor a b G = b G1 := by
  unfold xtor
  rw [h]
  rfl
/-- two tests that change nothing -/
theorem xtand_b {a b : M Bool} {G : Gam} {k l : Bool} (h : a G = some (k, G)) (h' : b G = some (l, G)) : xtand a b G = some (k && l, G) := by
  cases k
  · exact xtand_f h
  · rw [xtand_t h, h']; rfl
theorem xtor_b {a b : M Bool} {G : Gam} {k l : Bool} (h : a G = some (k, G)) (h' : b G = some (l, G)) : xtor a b G = some (k || l, G) := by
  cases k
  · rw [xtor_f h, h']; rfl
  · exact xtor_t h
theorem xvand_b {a b : M R} {G : Gam} {k l : Bool} (h : a G = some (.im (.bl k), G)) (h' : b G = some (.im (.bl l), G)) : xvand a b G = some (.im (.bl (k && l)), G) := by
  cases k
  · exact xvand_f h
  · rw [xvand_t h h']; rfl
theorem xstar_ok {a : M R} {b : M (List D)} {G G1 G2 : Gam} {r : R} {ds xs : List D} (h : a G = some (r, G1)) (hd : seqD r.d = some ds) (hb : b G1 = some (xs, G2)) : xstar a b G = some (ds ++ xs, G2) := by
  unfold xstar
  rw [h]
  simp only [bd_some, hd, hb]
theorem xasg_ok {a : M R} {tg : D → Gam → Option Gam} {G G1 G2 : Gam} {r : R} (h : a G = some (r, G1)) (ht : tg r.d G1 = some G2) : xasg a tg G = some (.nx, G2) := by
  unfold xasg
  rw [h]
  simp only [bd_some, ht]
theorem xseqR_ok {a : M R} {G G1 : Gam} {r : R} {ds : List D} (h : a G = some (r, G1)) (hd : seqD r.d = some ds) : xseqI a G = some (ds, G1) := by
  unfold xseqI
  rw [h]
  simp only [bd_some, hd]
/-- a comprehension with a test: what is kept -/
theorem xlcL_fm {β : Type} {tg : D → Gam → Option Gam} {t : M Bool} {e : M R} {vs : List Nat} {G : Gam} {en : β → D} (p : β → Bool) (f : β → D) : ∀ {xs : List β}, (∀ x ∈ xs, ∃ G1 G2, tg (en x) G = some G1 ∧ t G1 = some (p x, G2) ∧
      (p x = false → wipeG G2 vs = G) ∧ (p x = true → ∃ r G3, e G2 = some (r, G3) ∧ r.d = f x ∧ wipeG G3 vs = G)) →
    xlcL tg t e vs (xs.map en) G = some ((xs.filter p).map f, G)
  | [], _ => rfl
  | x :: xs, h => by
    obtain ⟨G1, G2, h1, h2, h3, h4⟩ := h x List.mem_cons_self
    have ih := xlcL_fm p f (xs := xs) (fun y hy => h y (List.mem_cons_of_mem _ hy))
    show xlcL tg t e vs (en x :: xs.map en) G = _
    unfold xlcL
    rw [h1]
    simp only [bd_some, h2]
    cases hp : p x
    · rw [h3 hp]
      simp only [ih, List.filter_cons, hp]
      rfl
    · obtain ⟨r, G3, h5, h6, h7⟩ := h4 hp
      simp only [if_true, h5, bd_some, h7, ih, List.filter_cons, hp, List.map_cons, h6]
theorem xlcL_en {β : Type} {tg : D → Gam → Option Gam} {e : M R} {vs : List Nat} {G : Gam} {en : β → D} (f : β → D) : ∀ {xs : List β}, (∀ x ∈ xs, ∃ G1 r G2, tg (en x) G = some G1 ∧ e G1 = some (r, G2) ∧ r.d = f x ∧ wipeG G2 vs = G) →
    xlcL tg xtyes e vs (xs.map en) G = some (xs.map f, G)
  | [], _ => rfl
  | x :: xs, h => by
    obtain ⟨G1, r, G2, h1, h2, h3, h4⟩ := h x List.mem_cons_self
    have ih := xlcL_en f (xs := xs) (fun y hy => h y (List.mem_cons_of_mem _ hy))
    show xlcL tg xtyes e vs (en x :: xs.map en) G = _
    unfold xlcL
    rw [h1]
    simp only [bd_some, xtyes, if_true, h2, h4]
    rw [ih]
    simp only [bd_some, h3, List.map_cons]
/-- a comprehension over names that are not set yet -/
theorem xlc_un {it : M (List D)} {tg : D → Gam → Option Gam} {t : M Bool} {e : M R} {vs : List Nat} {G0 G : Gam} {ds out : List D} (h1 : it G0 = some (ds, G)) (h2 : noMu G vs = true) (hw : wipeG G vs = G) (hu : unw G G vs = G)
    (h3 : xlcL tg t e vs ds G = some (out, G)) (hf : out.length ≤ 100000) : xlc it tg t e vs G0 = some (.ol out, G) := by
  have h3' : xlcL tg t e vs ds (wipeG G vs) = some (out, G) := by rw [hw]; exact h3
  have := xlc_ok h1 h2 h3' (decide_eq_true (Nat.le_trans hf (by decide)))
  rw [hu] at this
  exact this
theorem atI_nat {α : Type} (xs : List α) (i : Nat) (h : i < xs.length) : atI xs (i : Int) = xs[i]? := by
  unfold atI ixN
  rw [if_pos (by omega), if_pos (by omega), Int.toNat_natCast]
  rfl
theorem fewl {n : Nat} (h : n ≤ 100000) : few n = true := decide_eq_true (Nat.le_trans h (by decide))
/-- tests asked of values alone -/
theorem div_divInt (a b : Rat) : Rat.divInt (a.num * b.den) (a.den * b.num) = a / b := by
  rw [← Rat.divInt_mul_divInt, divInt_self, Rat.div_def, Rat.inv_def]
theorem Ht.div {a b : Rat} {k l : Nat} (h : Ht a k) (h' : Ht b l) (h0 : b ≠ 0) : Ht (a / b) (k + l) := by
  rw [← div_divInt]
  exact ht_divInt (Int.mul_ne_zero (den_ne a) (fun h => h0 (Rat.num_eq_zero.mp h))) (h.1.mul h'.2) (h.2.mul h'.1)
end Bk
namespace Bk
open PySem L2
def insU (x : Rat) : List Rat → List Rat
  | [] => [x]
  | y :: r => if x < y then x :: y :: r else if x = y then y :: r else y :: insU x r
def asc (l : List Rat) : List Rat := l.foldr insU []
theorem mem_insU {x q : Rat} : ∀ {l : List Rat}, q ∈ insU x l ↔ q = x ∨ q ∈ l
  | [] => by simp [insU]
  | y :: r => by
    unfold insU
    split
    · simp
    · split
      · rename_i h1 h2
        subst h2
        simp
      · simp only [List.mem_cons, mem_insU]
        constructor
        · rintro (h | h | h) <;> simp [h]
        · rintro (h | h | h) <;> simp [h]
theorem mem_asc {q : Rat} : ∀ {l : List Rat}, q ∈ asc l ↔ q ∈ l
  | [] => by simp [asc]
  | x :: l => by
    show q ∈ insU x (asc l) ↔ _
    rw [mem_insU, mem_asc, List.mem_cons]
theorem insU_sorted {x : Rat} : ∀ {l : List Rat}, l.Pairwise (· < ·) → (insU x l).Pairwise (· < ·)
  | [], _ => by simp [insU]
  | y :: r, h => by
    have h1 := List.pairwise_cons.mp h
    unfold insU
    split
    · rename_i hx
      refine List.pairwise_cons.mpr ⟨fun z hz => ?_, h⟩
      rcases List.mem_cons.mp hz with rfl | hz
      · exact hx
      · have := h1.1 z hz
        grind
    · split
      · exact h
      · refine List.pairwise_cons.mpr ⟨fun z hz => ?_, insU_sorted h1.2⟩
        rcases mem_insU.mp hz with rfl | hz
        · grind
        · exact h1.1 z hz
theorem asc_sorted : ∀ l : List Rat, (asc l).Pairwise (· < ·)
  | [] => by simp [asc]
  | x :: l => insU_sorted (asc_sorted l)
theorem sorted_uniq : ∀ {a b : List Rat}, a.Pairwise (· < ·) → b.Pairwise (· < ·) → (∀ q, q ∈ a ↔ q ∈ b) → a = b
  | [], [], _, _, _ => rfl
  | [], y :: b, _, _, h => absurd ((h y).mpr List.mem_cons_self) (by simp)
  | x :: a, [], _, _, h => absurd ((h x).mp List.mem_cons_self) (by simp)
  | x :: a, y :: b, ha, hb, h => by
    have ha1 := List.pairwise_cons.mp ha
    have hb1 := List.pairwise_cons.mp hb
    have e : x = y := by
      have h1 := (h x).mp List.mem_cons_self
      have h2 := (h y).mpr List.mem_cons_self
      rcases List.mem_cons.mp h1 with e | h1
      · exact e
      · rcases List.mem_cons.mp h2 with e | h2
        · exact e.symm
        · have := hb1.1 x h1
          have := ha1.1 y h2
          grind
    subst e
    refine congrArg (x :: ·) (sorted_uniq ha1.2 hb1.2 fun q => ?_)
    constructor
    · intro hq
      rcases List.mem_cons.mp ((h q).mp (List.mem_cons_of_mem _ hq)) with rfl | h3
      · have := ha1.1 q hq
        grind
      · exact h3
    · intro hq
      rcases List.mem_cons.mp ((h q).mpr (List.mem_cons_of_mem _ hq)) with rfl | h3
      · have := hb1.1 q hq
        grind
      · exact h3
def dd : Option Rat → List Rat → List Rat
  | _, [] => []
  | p, x :: xs => if p = some x then dd (some x) xs else x :: dd (some x) xs
theorem dd_some : ∀ {xs : List Rat} {p : Rat}, xs.Pairwise (· ≤ ·) → (∀ x ∈ xs, p ≤ x) → (dd (some p) xs).Pairwise (· < ·) ∧ (∀ q, q ∈ dd (some p) xs ↔ q ∈ xs ∧ p < q)
  | [], p, _, _ => by simp [dd]
  | x :: xs, p, h, hp => by
    have h1 := List.pairwise_cons.mp h
    obtain ⟨i1, i2⟩ := dd_some (xs := xs) (p := x) h1.2 h1.1
    have hpx := hp x List.mem_cons_self
    unfold dd
    split
    · rename_i e
      have e := Option.some.inj e
      subst e
      refine ⟨i1, fun q => ?_⟩
      rw [i2, List.mem_cons]
      constructor
      · rintro ⟨a, b⟩
        exact ⟨.inr a, b⟩
      · rintro ⟨a | a, b⟩
        · subst a; exact absurd b (by grind)
        · exact ⟨a, b⟩
    · rename_i e
      have e : p ≠ x := fun z => e (congrArg some z)
      have hlt : p < x := by grind
      refine ⟨List.pairwise_cons.mpr ⟨fun q hq => ((i2 q).mp hq).2, i1⟩, fun q => ?_⟩
      rw [List.mem_cons, i2, List.mem_cons]
      constructor
      · rintro (a | ⟨a, b⟩)
        · subst a; exact ⟨.inl rfl, hlt⟩
        · exact ⟨.inr a, by grind⟩
      · rintro ⟨a | a, b⟩
        · exact .inl a
        · by_cases z : q = x
          · exact .inl z
          · have := h1.1 q a
            exact .inr ⟨a, by grind⟩
theorem dd_none {xs : List Rat} (h : xs.Pairwise (· ≤ ·)) : (dd none xs).Pairwise (· < ·) ∧ (∀ q, q ∈ dd none xs ↔ q ∈ xs) := by
  cases xs with
  | nil => simp [dd]
  | cons x xs =>
    have h1 := List.pairwise_cons.mp h
    obtain ⟨i1, i2⟩ := dd_some h1.2 h1.1
    show (x :: dd (some x) xs).Pairwise (· < ·) ∧ (∀ q, q ∈ x :: dd (some x) xs ↔ q ∈ x :: xs)
    refine ⟨List.pairwise_cons.mpr ⟨fun q hq => ((i2 q).mp hq).2, i1⟩, fun q => ?_⟩
    rw [List.mem_cons, i2, List.mem_cons]
    constructor
    · rintro (a | ⟨a, b⟩)
      · exact .inl a
      · exact .inr a
    · rintro (a | a)
      · exact .inl a
      · by_cases z : q = x
        · exact .inl z
        · have := h1.1 q a
          exact .inr ⟨a, by grind⟩
theorem dd_asc {xs l : List Rat} (h : xs.Pairwise (· ≤ ·)) (hm : ∀ q, q ∈ xs ↔ q ∈ l) : dd none xs = asc l :=
  sorted_uniq (dd_none h).1 (asc_sorted l) fun q => by rw [(dd_none h).2, hm, mem_asc]
theorem eqv_vq (a b : Rat) : eqD (vq a) (vq b) = some (decide (a = b)) := by
  have e : eqD (vq a) (vq b) = some (PyData.eqv (pyq a) (pyq b)) := rfl
  rw [e]
  have : PyData.eqv (pyq a) (pyq b) = (decide (a.num = b.num) && decide ((a.den : Int) = b.den)) := by
    simp [pyq, PyData.eqv, PyData.eqvAll]
    rfl
  rw [this]
  congr 1
  by_cases h : a = b
  · subst h; simp
  · rw [decide_eq_false h]
    by_cases h1 : a.num = b.num
    · have h2 : ¬ (a.den : Int) = b.den := fun z => h (Rat.ext h1 (by omega))
      rw [decide_eq_false h2, Bool.and_false]
    · rw [decide_eq_false h1, Bool.false_and]
theorem ne_vq (a b : Rat) : opNe (vq a) (vq b) = some (.im (.bl (!decide (a = b)))) := by
  unfold opNe
  rw [eqv_vq]
theorem eq_vq (a b : Rat) : opEq (vq a) (vq b) = some (.im (.bl (decide (a = b)))) := by
  unfold opEq
  rw [eqv_vq]
def lcs (l : List Rat) (c : Nat) : Nat := l.foldl (fun c q => Nat.lcm c q.den) c
theorem lcs_dvd : ∀ {l : List Rat} {c : Nat}, c ∣ lcs l c ∧ ∀ q ∈ l, q.den ∣ lcs l c
  | [], c => ⟨Nat.dvd_refl c, by simp⟩
  | x :: l, c => by
    obtain ⟨h1, h2⟩ := lcs_dvd (l := l) (c := Nat.lcm c x.den)
    refine ⟨Nat.dvd_trans (Nat.dvd_lcm_left c x.den) h1, fun q hq => ?_⟩
    rcases List.mem_cons.mp hq with rfl | hq
    · exact Nat.dvd_trans (Nat.dvd_lcm_right c q.den) h1
    · exact h2 q hq
theorem lcs_pos : ∀ {l : List Rat} {c : Nat}, 0 < c → 0 < lcs l c
  | [], c, h => h
  | x :: l, c, h => lcs_pos (l := l) (c := Nat.lcm c x.den) (Nat.lcm_pos h x.den_pos)
theorem lcs_sm {k : Nat} : ∀ {l : List Rat} {c m : Nat}, Sm (c : Int) m → (∀ q ∈ l, Ht q k) → Sm (lcs l c : Int) (m + l.length * k)
  | [], c, m, h, _ => by simpa [lcs] using h
  | x :: l, c, m, h, hl => by
    have hx := (hl x List.mem_cons_self).2
    have h1 : Sm ((Nat.lcm c x.den : Nat) : Int) (m + k) := by
      have hm := h.mul hx
      unfold Sm at *
      refine Nat.lt_of_le_of_lt ?_ hm
      rw [Int.natAbs_mul, Int.natAbs_natCast, Int.natAbs_natCast, Int.natAbs_natCast]
      unfold Nat.lcm
      exact Nat.div_le_self _ _
    have := lcs_sm (l := l) h1 fun q hq => hl q (List.mem_cons_of_mem _ hq)
    have e : m + k + l.length * k = m + (x :: l).length * k := by
      rw [List.length_cons, Nat.add_mul]; omega
    rw [e] at this
    exact this
theorem qnum (q : Rat) : ((q.num : Int) : Rat) = q * ((q.den : Int) : Rat) := by
  have h := divInt_self q
  rw [Rat.divInt_eq_div] at h
  have hd : ((q.den : Int) : Rat) ≠ 0 := fun z => den_ne q (Rat.intCast_eq_zero_iff.mp z)
  generalize hx : ((q.num : Int) : Rat) = x at h
  generalize hy : ((q.den : Int) : Rat) = y at h hd
  rw [← h, Rat.div_mul_cancel hd]
/-- the key of a value, for a common multiple -/
def kyq (c : Nat) (q : Rat) : Int := q.num * ((c : Int).fdiv (q.den : Int))
theorem kyq_eq {c : Nat} {q : Rat} (h : q.den ∣ c) : ((kyq c q : Int) : Rat) = q * (c : Int) := by
  obtain ⟨e, rfl⟩ := h
  have hd := den_ne q
  have : ((q.den * e : Nat) : Int).fdiv (q.den : Int) = (e : Int) := by
    rw [Int.natCast_mul, Int.fdiv_eq_ediv_of_nonneg _ (by omega), Int.mul_ediv_cancel_left _ hd]
  unfold kyq
  rw [this, Int.natCast_mul]
  have h2 := qnum q
  rw [Rat.intCast_mul, Rat.intCast_mul, h2]
  grind
theorem kyq_le {c : Nat} {a b : Rat} (hc : 0 < c) (h : a.den ∣ c) (h' : b.den ∣ c) (hl : kyq c a ≤ kyq c b) : a ≤ b := by
  have h1 : ((kyq c a : Int) : Rat) ≤ ((kyq c b : Int) : Rat) := Rat.intCast_le_intCast.mpr hl
  rw [kyq_eq h, kyq_eq h'] at h1
  have h2 : (0 : Rat) < ((c : Int) : Rat) := by
    have : (0 : Int) < (c : Int) := by omega
    exact Rat.intCast_lt_intCast.mpr this
  exact Rat.le_of_mul_le_mul_right h1 h2
theorem kyq_inj {c : Nat} {a b : Rat} (hc : 0 < c) (h : a.den ∣ c) (h' : b.den ∣ c) (hl : kyq c a = kyq c b) : a = b :=
  Rat.le_antisymm (kyq_le hc h h' (by omega)) (kyq_le hc h' h (by omega))
def kit (c : Nat) (q : Rat) : D := .tup [.int (kyq c q), vq q]
theorem kp_kit (c : Nat) : ∀ l : List Rat, kpDs (l.map (kit c)) = some (l.map fun q => (kyq c q, q.num, (q.den : Int)))
  | [] => rfl
  | q :: l => by
    show (match kpD (kit c q), kpDs (l.map (kit c)) with | some a, some as => some (a :: as) | _, _ => none) = _
    rw [kp_kit c l]
    rfl
theorem okKP_kit {c : Nat} (hc : 0 < c) : ∀ {l : List Rat}, (∀ q ∈ l, q.den ∣ c) → okKP (l.map fun q => (kyq c q, q.num, (q.den : Int))) = true
  | [], _ => rfl
  | q :: l, h => by
    show ((l.map fun q => (kyq c q, q.num, (q.den : Int))).all (fun b => !(kyq c q == b.1) || (q.num == b.2.1 && (q.den : Int) == b.2.2)) && okKP (l.map fun q => (kyq c q, q.num, (q.den : Int)))) = true
    rw [okKP_kit hc fun r hr => h r (List.mem_cons_of_mem _ hr), Bool.and_true, List.all_eq_true]
    intro x hx
    obtain ⟨r, hr, rfl⟩ := List.mem_map.mp hx
    by_cases e : kyq c q = kyq c r
    · have := kyq_inj hc (h q List.mem_cons_self) (h r (List.mem_cons_of_mem _ hr)) e
      subst this
      simp
    · simp [e]
theorem sorted_kit {c : Nat} {d : D} {l : List Rat} (hc : 0 < c) (h : ∀ q ∈ l, q.den ∣ c) (hd : d = .lst (l.map (kit c))) : cbSorted [d] = some (.ol ((sortK (kyq c) l).map (kit c))) := by
  subst hd
  show (match kpDs (l.map (kit c)) with | some z => if okKP z then some (R.ol (sortK keyD (l.map (kit c)))) else none | none => none) = _
  rw [kp_kit]
  simp only [okKP_kit hc h, if_true]
  rw [← sortK_map keyD (kit c)]
  rfl
theorem sortK_asc {c : Nat} {l : List Rat} (hc : 0 < c) (h : ∀ q ∈ l, q.den ∣ c) : dd none (sortK (kyq c) l) = asc l := by
  have hp := sortK_perm (kyq c) l
  refine dd_asc ?_ fun q => hp.mem_iff
  have hs := sortK_sorted (kyq c) l
  have hm : ∀ q ∈ sortK (kyq c) l, q.den ∣ c := fun q hq => h q (hp.mem_iff.mp hq)
  revert hs hm
  generalize sortK (kyq c) l = s
  intro hs hm
  induction s with
  | nil => exact .nil
  | cons x s ih =>
    have h1 := List.pairwise_cons.mp hs
    refine List.pairwise_cons.mpr ⟨fun y hy => kyq_le hc (hm x List.mem_cons_self) (hm y (List.mem_cons_of_mem _ hy)) (h1.1 y hy), ih h1.2 fun q hq => hm q (List.mem_cons_of_mem _ hq)⟩
end Bk
namespace Bk
theorem insU_len (x : Rat) : ∀ l : List Rat, (insU x l).length ≤ l.length + 1
  | [] => Nat.le_refl _
  | y :: r => by
    have := insU_len x r
    unfold insU
    split
    · simp
    · split
      · simp
      · simp only [List.length_cons]; omega
theorem asc_len : ∀ l : List Rat, (asc l).length ≤ l.length
  | [] => Nat.le_refl _
  | x :: l => by
    have := insU_len x (asc l)
    have := asc_len l
    show (insU x (asc l)).length ≤ _
    rw [List.length_cons]
    omega
end Bk
namespace Bk
open PySem L2
abbrev Wt := Rat × Rat
abbrev Sh := Rat × Rat × Rat
theorem foldl_add (l : List Rat) : ∀ a : Rat, l.foldl (· + ·) a = a + sumQ l := by
  induction l with
  | nil => intro a; show a = a + 0; grind
  | cons x l ih =>
    intro a
    show l.foldl (· + ·) (a + x) = a + l.foldl (· + ·) (0 + x)
    rw [ih, ih (0 + x)]
    grind
theorem sumQ_nil : sumQ [] = 0 := rfl
theorem sumQ_cons (x : Rat) (l : List Rat) : sumQ (x :: l) = x + sumQ l := by
  show l.foldl (· + ·) (0 + x) = _
  rw [foldl_add]
  grind
theorem sumQ_app (a b : List Rat) : sumQ (a ++ b) = sumQ a + sumQ b := by
  induction a with
  | nil => rw [List.nil_append, sumQ_nil]; grind
  | cons x a ih => rw [List.cons_append, sumQ_cons, ih, sumQ_cons]; grind
def sumM {α : Type} (l : List α) (f : α → Rat) : Rat := sumQ (l.map f)
theorem sumM_nil {α : Type} (f : α → Rat) : sumM [] f = 0 := rfl
theorem sumM_cons {α : Type} (x : α) (l : List α) (f : α → Rat) : sumM (x :: l) f = f x + sumM l f := sumQ_cons _ _
theorem sumM_app {α : Type} (a b : List α) (f : α → Rat) : sumM (a ++ b) f = sumM a f + sumM b f := by
  unfold sumM
  rw [List.map_append, sumQ_app]
theorem sumM_congr {α : Type} {l : List α} {f g : α → Rat} (h : ∀ x ∈ l, f x = g x) : sumM l f = sumM l g := by
  unfold sumM
  rw [List.map_congr_left h]
theorem sumM_filter {α : Type} (l : List α) (f : α → Rat) (p : α → Bool) (h : ∀ x ∈ l, p x = false → f x = 0) : sumM (l.filter p) f = sumM l f := by
  induction l with
  | nil => rfl
  | cons x l ih =>
    have ih := ih fun y hy => h y (List.mem_cons_of_mem _ hy)
    rw [List.filter_cons]
    cases hp : p x
    · have := h x List.mem_cons_self hp
      rw [sumM_cons, this]
      simp only [Bool.false_eq_true, if_false, ih]
      grind
    · simp only [if_true]
      rw [sumM_cons, sumM_cons, ih]
theorem sumM_map {α β : Type} (l : List α) (g : α → β) (f : β → Rat) : sumM (l.map g) f = sumM l fun x => f (g x) := by
  unfold sumM
  rw [List.map_map]
  rfl
/-- the weights at a point -/
def wAt (ws : List Wt) (p : Rat) : Rat := sumQ ((ws.filter fun w => decide (w.1 = p)).map (·.2))
def lwOf (ws : List Wt) : List Wt := ((asc (ws.map (·.1))).map fun p => (p, wAt ws p)).filter fun w => !decide (w.2 = 0)
def wval (f : Rat → Rat) (ws : List Wt) : Rat := sumM ws fun w => w.2 * f w.1
def sIn (lo hi : Rat) (s : Sh) : Bool := !decide (lo < s.1) && !decide (s.2.1 < hi)
def sAt (ss : List Sh) (lo hi : Rat) : Rat := sumQ ((ss.filter (sIn lo hi)).map (·.2.2))
def lsStep (ss : List Sh) (acc : List Sh) (lo hi : Rat) : List Sh := match acc.getLast? with
  | some x => if x.2.2 = sAt ss lo hi then acc.dropLast ++ [(x.1, hi, sAt ss lo hi)] else acc ++ [(lo, hi, sAt ss lo hi)]
  | none => acc ++ [(lo, hi, sAt ss lo hi)]
def lsGo (ss : List Sh) : List Sh → List Rat → List Sh
  | acc, lo :: hi :: r => lsGo ss (lsStep ss acc lo hi) (hi :: r)
  | acc, _ => acc
def ends (ss : List Sh) : List Rat := ss.flatMap fun s => [s.1, s.2.1]
def lsOf (ss : List Sh) : List Sh := (lsGo ss [] (asc (ends ss))).filter fun s => !decide (s.2.2 = 0)
def sval (F : Rat → Rat) (ss : List Sh) : Rat := sumM ss fun s => s.2.2 * (F s.2.1 - F s.1)
/-- a sum over what follows on another -/
def steps (g : Rat → Rat → Rat) : List Rat → Rat
  | lo :: hi :: r => g lo hi + steps g (hi :: r)
  | _ => 0
theorem steps_add (g h : Rat → Rat → Rat) : ∀ l : List Rat, steps (fun a b => g a b + h a b) l = steps g l + steps h l
  | [] => by show (0 : Rat) = 0 + 0; grind
  | [_] => by show (0 : Rat) = 0 + 0; grind
  | lo :: hi :: r => by
    show g lo hi + h lo hi + steps (fun a b => g a b + h a b) (hi :: r) = (g lo hi + steps g (hi :: r)) + (h lo hi + steps h (hi :: r))
    rw [steps_add g h (hi :: r)]
    grind
theorem steps_zero : ∀ l : List Rat, steps (fun _ _ => 0) l = 0
  | [] => rfl
  | [_] => rfl
  | lo :: hi :: r => by
    show 0 + steps (fun _ _ => 0) (hi :: r) = 0
    rw [steps_zero (hi :: r)]
    grind
theorem steps_mul (c : Rat) (g : Rat → Rat → Rat) : ∀ l : List Rat, steps (fun a b => c * g a b) l = c * steps g l
  | [] => by show (0 : Rat) = c * 0; grind
  | [_] => by show (0 : Rat) = c * 0; grind
  | lo :: hi :: r => by
    show c * g lo hi + steps (fun a b => c * g a b) (hi :: r) = c * (g lo hi + steps g (hi :: r))
    rw [steps_mul c g (hi :: r)]
    grind
theorem getLast_split {α : Type} : ∀ {l : List α} {x : α}, l.getLast? = some x → l = l.dropLast ++ [x]
  | [], _, h => by simp at h
  | [y], x, h => by simp at h; simp [h]
  | y :: z :: l, x, h => by
    have := getLast_split (l := z :: l) (x := x) (by rw [List.getLast?_cons_cons] at h; exact h)
    rw [List.dropLast_cons_cons, List.cons_append, ← this]
theorem lsGo_val (F : Rat → Rat) (ss : List Sh) : ∀ (pts : List Rat) (acc : List Sh), (∀ x, acc.getLast? = some x → ∀ lo r, pts = lo :: r → x.2.1 = lo) →
    sval F (lsGo ss acc pts) = sval F acc + steps (fun lo hi => sAt ss lo hi * (F hi - F lo)) pts
  | [], acc, _ => by show _ = sval F acc + 0; unfold lsGo; grind
  | [_], acc, _ => by show _ = sval F acc + 0; unfold lsGo; grind
  | lo :: hi :: r, acc, h => by
    have hv : sval F (lsStep ss acc lo hi) = sval F acc + sAt ss lo hi * (F hi - F lo) := by
      unfold lsStep
      split
      · rename_i x hx
        split
        · rename_i e
          have h1 := h x hx lo (hi :: r) rfl
          conv => rhs; rw [getLast_split hx]
          unfold sval
          rw [sumM_app, sumM_app, sumM_cons, sumM_cons, sumM_nil, ← e, ← h1]
          grind
        · unfold sval
          rw [sumM_app, sumM_cons, sumM_nil]
          grind
      · unfold sval
        rw [sumM_app, sumM_cons, sumM_nil]
        grind
    have hl : ∀ x, (lsStep ss acc lo hi).getLast? = some x → ∀ lo' r', hi :: r = lo' :: r' → x.2.1 = lo' := fun x hx lo' r' e => by
      cases e
      unfold lsStep at hx
      split at hx
      · split at hx <;> simp at hx <;> rw [← hx]
      · simp at hx; rw [← hx]
    show sval F (lsGo ss (lsStep ss acc lo hi) (hi :: r)) = sval F acc + (sAt ss lo hi * (F hi - F lo) + steps (fun lo hi => sAt ss lo hi * (F hi - F lo)) (hi :: r))
    rw [lsGo_val F ss (hi :: r) _ hl, hv]
    grind
/-- one part, over what follows on another -/
def tele (F : Rat → Rat) (a b : Rat) (lo hi : Rat) : Rat := if (!decide (lo < a) && !decide (b < hi)) = true then F hi - F lo else 0
theorem tele_past (F : Rat → Rat) (a b : Rat) : ∀ (r : List Rat) (x : Rat), (x :: r).Pairwise (· < ·) → b ≤ x → steps (tele F a b) (x :: r) = 0
  | [], _, _, _ => rfl
  | y :: r, x, h, hb => by
    have h1 := List.pairwise_cons.mp h
    have hxy := h1.1 y List.mem_cons_self
    show tele F a b x y + steps (tele F a b) (y :: r) = 0
    rw [tele_past F a b r y h1.2 (by grind)]
    have : tele F a b x y = 0 := by
      unfold tele
      rw [if_neg]
      simp
      intro _
      grind
    rw [this]
    grind
theorem tele_from (F : Rat → Rat) (a b : Rat) : ∀ (r : List Rat) (x : Rat), (x :: r).Pairwise (· < ·) → a ≤ x → b ∈ x :: r → steps (tele F a b) (x :: r) = F b - F x
  | [], x, _, _, hb => by
    rw [List.mem_singleton.mp hb]
    show (0 : Rat) = _
    grind
  | y :: r, x, h, ha, hb => by
    have h1 := List.pairwise_cons.mp h
    have hxy := h1.1 y List.mem_cons_self
    show tele F a b x y + steps (tele F a b) (y :: r) = _
    by_cases e : b = x
    · subst e
      rw [tele_past F a b r y h1.2 (by grind)]
      have : tele F a b b y = 0 := by
        unfold tele
        rw [if_neg]
        simp
        intro _
        grind
      rw [this]
      grind
    · have hb' : b ∈ y :: r := by
        rcases List.mem_cons.mp hb with z | z
        · exact absurd z e
        · exact z
      have hyb : y ≤ b := by
        rcases List.mem_cons.mp hb' with z | z
        · rw [z]; exact Rat.le_refl
        · have := (List.pairwise_cons.mp h1.2).1 b z
          grind
      rw [tele_from F a b r y h1.2 (by grind) hb']
      have : tele F a b x y = F y - F x := by
        unfold tele
        rw [if_pos]
        simp
        grind
      rw [this]
      grind
theorem tele_all (F : Rat → Rat) (a b : Rat) (hab : a ≤ b) : ∀ (r : List Rat), r.Pairwise (· < ·) → a ∈ r → b ∈ r → steps (tele F a b) r = F b - F a
  | [], _, h, _ => by simp at h
  | x :: r, h, ha, hb => by
    by_cases e : a = x
    · subst e
      exact tele_from F a b r a h Rat.le_refl hb
    · have h1 := List.pairwise_cons.mp h
      have ha' : a ∈ r := by
        rcases List.mem_cons.mp ha with z | z
        · exact absurd z e
        · exact z
      have hxa := h1.1 a ha'
      have hb' : b ∈ r := by
        rcases List.mem_cons.mp hb with z | z
        · exfalso; grind
        · exact z
      cases r with
      | nil => simp at ha'
      | cons y r =>
        show tele F a b x y + steps (tele F a b) (y :: r) = _
        rw [tele_all F a b hab (y :: r) h1.2 ha' hb']
        have : tele F a b x y = 0 := by
          unfold tele
          rw [if_neg]
          simp
          intro z
          grind
        rw [this]
        grind
theorem sAt_cons (s : Sh) (ss : List Sh) (lo hi : Rat) : sAt (s :: ss) lo hi = (if sIn lo hi s = true then s.2.2 else 0) + sAt ss lo hi := by
  unfold sAt
  rw [List.filter_cons]
  split
  · rw [List.map_cons, sumQ_cons]
  · grind
theorem sAt_sum (F : Rat → Rat) (P : List Rat) (hp : P.Pairwise (· < ·)) : ∀ ss : List Sh, (∀ s ∈ ss, s.1 ≤ s.2.1 ∧ s.1 ∈ P ∧ s.2.1 ∈ P) → steps (fun lo hi => sAt ss lo hi * (F hi - F lo)) P = sval F ss
  | [], _ => by
    have : (fun lo hi => sAt [] lo hi * (F hi - F lo)) = fun _ _ => (0 : Rat) := by
      funext lo hi
      show (0 : Rat) * _ = 0
      grind
    rw [this, steps_zero]
    rfl
  | s :: ss, h => by
    have ih := sAt_sum F P hp ss fun x hx => h x (List.mem_cons_of_mem _ hx)
    obtain ⟨h1, h2, h3⟩ := h s List.mem_cons_self
    have : (fun lo hi => sAt (s :: ss) lo hi * (F hi - F lo)) = fun lo hi => s.2.2 * tele F s.1 s.2.1 lo hi + sAt ss lo hi * (F hi - F lo) := by
      funext lo hi
      rw [sAt_cons]
      unfold tele sIn
      split <;> grind
    rw [this, steps_add, steps_mul, ih, tele_all F _ _ h1 P hp h2 h3]
    unfold sval
    rw [sumM_cons]
theorem sval_ls (F : Rat → Rat) (ss : List Sh) (h : ∀ s ∈ ss, s.1 ≤ s.2.1) : sval F (lsOf ss) = sval F ss := by
  unfold lsOf
  rw [show sval F ((lsGo ss [] (asc (ends ss))).filter fun s => !decide (s.2.2 = 0)) = sval F (lsGo ss [] (asc (ends ss))) from sumM_filter _ _ _ fun s _ hs => by
    have hs : s.2.2 = 0 := by simpa using hs
    rw [hs]; grind]
  rw [lsGo_val F ss _ [] (by simp), sAt_sum F _ (asc_sorted _) ss fun s hs => ⟨h s hs, ?_, ?_⟩]
  · show (0 : Rat) + _ = _
    grind
  · exact mem_asc.mpr (List.mem_flatMap.mpr ⟨s, hs, by simp⟩)
  · exact mem_asc.mpr (List.mem_flatMap.mpr ⟨s, hs, by simp⟩)
end Bk
namespace Bk
def wD (p : Wt) : D := .tup [vq p.1, vq p.2]
def sD (t : Sh) : D := .tup [vq t.1, vq t.2.1, vq t.2.2]
def WR (d : D) (w : Wt) : Prop := ∃ a b, d = .tup [a, b] ∧ IsV a w.1 ∧ IsV b w.2
def SR (d : D) (s : Sh) : Prop := ∃ a b c, d = .tup [a, b, c] ∧ IsV a s.1 ∧ IsV b s.2.1 ∧ IsV c s.2.2
theorem isV_vq (q : Rat) : IsV (vq q) q := .inr rfl
theorem isV_int (i : Int) : IsV (.int i) (i : Rat) := .inl ⟨i, rfl, rfl⟩
theorem wr_wD (w : Wt) : WR (wD w) w := ⟨_, _, rfl, isV_vq _, isV_vq _⟩
end Bk
namespace Bk
open PySem L2
theorem xlc2L_fl {β : Type} {tg tg1 : D → Gam → Option Gam} {c c1 : M Bool} {it1 : M (List D)} {e : M R} {vs vs1 : List Nat} {G : Gam} {en : β → D} (f : β → List D) : ∀ {xs : List β},
    (∀ x ∈ xs, ∃ G1 G2 G3 ds1, tg (en x) G = some G1 ∧ c G1 = some (true, G1) ∧ it1 G1 = some (ds1, G2) ∧ xlcL tg1 c1 e vs1 ds1 (wipeG G2 vs1) = some (f x, G3) ∧ wipeG G3 vs = G) →
    xlc2L tg c it1 tg1 c1 e vs vs1 (xs.map en) G = some (xs.flatMap f, G)
  | [], _ => rfl
  | x :: xs, h => by
    obtain ⟨G1, G2, G3, ds1, h1, h2, h3, h4, h5⟩ := h x List.mem_cons_self
    have ih := xlc2L_fl (c := c) (it1 := it1) f (xs := xs) fun y hy => h y (List.mem_cons_of_mem _ hy)
    show xlc2L tg c it1 tg1 c1 e vs vs1 (en x :: xs.map en) G = _
    unfold xlc2L
    rw [h1]
    simp only [bd_some, h2, if_true, h3, h4, h5, ih, List.flatMap_cons]
theorem xlc2_un {it it1 : M (List D)} {tg tg1 : D → Gam → Option Gam} {c c1 : M Bool} {e : M R} {vs vs1 : List Nat} {G0 G : Gam} {ds out : List D} (h1 : it G0 = some (ds, G)) (h2 : noMu G vs = true) (hw : wipeG G vs = G) (hu : unw G G vs = G)
    (h3 : xlc2L tg c it1 tg1 c1 e vs vs1 ds G = some (out, G)) (hf : out.length ≤ 100000) : xlc2 it tg c it1 tg1 c1 e vs vs1 G0 = some (.ol out, G) := by
  unfold xlc2
  rw [h1]
  simp only [bd_some, h2, if_true, hw, h3, fewl hf, hu]
theorem xsl_ok {o : D → Option Int → Option Int → Option R} {a : M R} {l h : MO} {G G1 G2 G3 : Gam} {x r : R} {i j : Option Int} (ha : a G = some (x, G1)) (hl : l G1 = some (i, G2)) (hh : h G2 = some (j, G3)) (ho : o x.d i j = some r) : xsl o a l h G = some (r, G3) := by
  unfold xsl
  rw [ha]
  simp only [bd_some, hl, hh, ho]
theorem cut_tail (xs : List D) : cutD xs (some 1) none = xs.tail := by
  unfold cutD
  rw [HT.sIx_none]
  have e : HT.sIx xs.length 0 (some 1) = min 1 xs.length := HT.sIx_nat _ _ 1
  rw [e]
  cases xs with
  | nil => rfl
  | cons x xs =>
    have : min 1 (x :: xs).length = 1 := by rw [List.length_cons]; omega
    rw [this, List.drop_one, List.tail_cons, List.length_cons, Nat.add_sub_cancel, List.take_length]
theorem cut_init (xs : List D) : cutD xs none (some (-1)) = xs.dropLast := by
  unfold cutD
  rw [HT.sIx_none]
  have e : HT.sIx xs.length xs.length (some (-1)) = xs.length - 1 := by
    show (if (-1 : Int) < 0 then ((-1 : Int) + (xs.length : Int)).toNat else min (-1 : Int).toNat xs.length) = _
    rw [if_pos (by decide)]
    omega
  rw [e, List.dropLast_eq_take]
  rfl
theorem atI_last {α : Type} {xs : List α} {x : α} (h : xs.getLast? = some x) : atI xs (-1) = some x := by
  have e := getLast_split h
  have hl : 0 < xs.length := by rw [e]; simp
  unfold atI ixN
  rw [if_neg (by decide), if_pos (by omega)]
  have e2 : (-1 + (xs.length : Int)).toNat = xs.length - 1 := by omega
  rw [e2]
  show xs[xs.length - 1]? = _
  rw [← List.getLast?_eq_getElem?, h]
def pD (p : Rat × Rat) : D := .tup [vq p.1, vq p.2]
theorem lsStep_len (ss acc : List Sh) (lo hi : Rat) : (lsStep ss acc lo hi).length ≤ acc.length + 1 := by
  unfold lsStep
  split
  · split
    · rw [List.length_append, List.length_dropLast, List.length_singleton]; omega
    · rw [List.length_append, List.length_singleton]; omega
  · rw [List.length_append, List.length_singleton]; omega
theorem lsGo_len (ss : List Sh) : ∀ (pts : List Rat) (acc : List Sh), (lsGo ss acc pts).length ≤ acc.length + pts.length
  | [], acc => by unfold lsGo; omega
  | [_], acc => by unfold lsGo; omega
  | lo :: hi :: r, acc => by
    show (lsGo ss (lsStep ss acc lo hi) (hi :: r)).length ≤ _
    have := lsGo_len ss (hi :: r) (lsStep ss acc lo hi)
    have := lsStep_len ss acc lo hi
    simp only [List.length_cons] at *
    omega
theorem ends_len (ss : List Sh) : (ends ss).length = ss.length * 2 := by
  unfold ends
  induction ss with
  | nil => rfl
  | cons s ss ih => rw [List.flatMap_cons, List.length_append, ih]; simp only [List.length_cons, List.length_nil]; omega
end Bk
namespace Bk
open PySem L2
theorem xasgF_ok {j c i k : Nat} {a : M R} {G G1 G2 G3 : Gam} {d d' : D} (h : a G = some (.im (.tup [d, d']), G1)) (h2 : putA j c i d G1 = some G2) (h3 : putA j c k d' G2 = some G3) : xasgF j c i k a G = some (.nx, G3) := by
  unfold xasgF
  rw [h]
  simp only [bd_some, R.d, h2, h3]
theorem xsetf_ok {j c i : Nat} {a : M R} {G G1 G2 : Gam} {r : R} (h : a G = some (r, G1)) (h2 : putA j c i r.d G1 = some G2) : xsetf j c i a G = some (.nx, G2) := by
  unfold xsetf
  rw [h]
  simp only [bd_some, h2]
theorem xmake_ok {c : Nat} {m : Mob → List D → Option (R × Mob)} {dds : List D} {a : M (List D)} {G G1 : Gam} {xs : List D} {m' : Mob} (h : a G = some (xs, G1)) (hm : m (.o c []) (xs ++ dds) = some (.im .non, m')) : xmake c m dds a G = some (.ow m', G1) := by
  unfold xmake
  rw [h]
  simp only [bd_some, hm]
theorem xrev_ok {a b : M R} {G G1 G2 : Gam} {x y : R} {ds : List D} (h : a G = some (x, G1)) (h2 : b G1 = some (y, G2)) (hx : asL x.d = some ds) (hy : y.d = .int (-1)) : xrev a b G = some (.ol ds.reverse, G2) := by
  unfold xrev
  rw [h]
  simp only [bd_some, h2, hx, hy, if_true]
theorem bools_true {α : Type} : ∀ l : List α, bools (l.map fun _ => D.bl true) = some (l.map fun _ => true)
  | [] => rfl
  | x :: l => by
    show bools (D.bl true :: l.map fun _ => D.bl true) = _
    unfold bools
    rw [bools_true l]
    rfl
theorem all_true {α : Type} (l : List α) : cbAll [.lst (l.map fun _ => D.bl true)] = some (.im (.bl true)) := by
  show (bools (l.map fun _ => D.bl true)).map (fun bs => R.im (.bl (bs.all id))) = _
  rw [bools_true]
  have : (l.map fun _ => true).all id = true := by simp
  show some (R.im (.bl ((l.map fun _ => true).all id))) = _
  rw [this]
/-- d holds a list or a tuple of ds -/
def isSq (d : D) (ds : List D) : Prop := d = .lst ds ∨ d = .tup ds ∨ d = .frz ds
theorem isSq.seq {d : D} {ds : List D} (h : isSq d ds) : seqD d = some ds := by
  rcases h with rfl | rfl | rfl <;> rfl
def rlL (lo hi : Rat) (ws : List Wt) (ss : List Sh) : List D := [vq lo, vq hi, .tup (ws.map wD), .tup (ss.map sD)]
def hor (cs : List Rat) (x : Rat) : Rat := cs.foldr (fun c a => a * x + c) 0
def apow : Nat → List Rat → List Rat
  | _, [] => []
  | i, c :: cs => c / (((i : Int) + 1 : Int) : Rat) :: apow (i + 1) cs
def areaP (cs : List Rat) : List Rat := 0 :: apow 0 cs
def tol (ws : List Wt) (ss : List Sh) (cs : List Rat) : Rat := wval (hor cs) ws + sval (hor (areaP cs)) ss
theorem hor_ht {cs : List Rat} {x : Rat} {kc kx : Nat} (hc : ∀ c ∈ cs, Ht c kc) (hx : Ht x kx) : Ht (hor cs x) (1 + cs.length * (kx + kc + 1)) := by
  induction cs with
  | nil => exact ht0.up (by simp)
  | cons c cs ih =>
    have h1 := ih fun y hy => hc y (List.mem_cons_of_mem _ hy)
    show Ht (hor cs x * x + c) _
    have := (h1.mul hx).add (hc c List.mem_cons_self)
    refine this.up ?_
    rw [List.length_cons, Nat.add_mul]
    omega
theorem hor_rev (cs : List Rat) (x : Rat) : cs.reverse.foldl (fun a c => a * x + c) 0 = hor cs x := by
  unfold hor
  rw [List.foldl_reverse]
theorem apow_len : ∀ (i : Nat) (cs : List Rat), (apow i cs).length = cs.length
  | _, [] => rfl
  | i, c :: cs => by show (apow (i + 1) cs).length + 1 = _; rw [apow_len (i + 1) cs]; rfl
theorem idx_ht {i ki : Nat} (h : i + 1 < 2 ^ ki) : Ht ((((i : Int) + 1 : Int)) : Rat) ki := Ht.int (by unfold Sm; omega) (by
  rcases Nat.eq_zero_or_pos ki with rfl | z
  · simp at h
  · exact z)
theorem idx_ne (i : Nat) : ((((i : Int) + 1 : Int)) : Rat) ≠ 0 := fun h => by
  have := Rat.intCast_eq_zero_iff.mp h
  omega
theorem apow_ht {kc ki : Nat} : ∀ {i : Nat} {cs : List Rat}, (∀ c ∈ cs, Ht c kc) → i + cs.length < 2 ^ ki → ∀ c ∈ apow i cs, Ht c (kc + ki)
  | _, [], _, _, c, h => by simp [apow] at h
  | i, x :: cs, hc, hi, c, h => by
    rcases List.mem_cons.mp h with rfl | h
    · exact (hc x List.mem_cons_self).div (idx_ht (by rw [List.length_cons] at hi; omega)) (idx_ne i)
    · exact apow_ht (i := i + 1) (fun y hy => hc y (List.mem_cons_of_mem _ hy)) (by rw [List.length_cons] at hi; omega) c h
theorem areaP_ht {kc ki : Nat} {cs : List Rat} (hc : ∀ c ∈ cs, Ht c kc) (hi : cs.length < 2 ^ ki) : ∀ c ∈ areaP cs, Ht c (kc + ki + 1) := fun c h => by
  rcases List.mem_cons.mp h with rfl | h
  · exact ht0.up (by omega)
  · exact (apow_ht (ki := ki) hc (by omega) c h).up (by omega)
end Bk
namespace Bk
/-- sizes that let the sum of a rule be told -/
structure TolOk (ws : List Wt) (ss : List Sh) (cs : List Rat) (kp kw kc ki : Nat) : Prop where
  w : ∀ w ∈ ws, Ht w.1 kp ∧ Ht w.2 kw
  s : ∀ s ∈ ss, Ht s.1 kp ∧ Ht s.2.1 kp ∧ Ht s.2.2 kw
  c : ∀ c ∈ cs, Ht c kc
  i : cs.length < 2 ^ ki
  t : 1 + (ws.length + ss.length) * ((kw + 2 * (1 + (cs.length + 1) * (kp + kc + ki + 2)) + 1) + 1) + (kw + 2 * (1 + (cs.length + 1) * (kp + kc + ki + 2)) + 1) + (kp + kc + ki) < 8990
def tolL (ws : List Wt) (ss : List Sh) (cs : List Rat) : List Rat := (ws.map fun w => w.2 * hor cs w.1) ++ ss.map fun s => s.2.2 * (hor (areaP cs) s.2.1 - hor (areaP cs) s.1)
theorem tolL_sum (ws : List Wt) (ss : List Sh) (cs : List Rat) : sumQ (tolL ws ss cs) = tol ws ss cs := by
  unfold tolL tol wval sval sumM
  rw [sumQ_app]
theorem TolOk.hor {ws : List Wt} {ss : List Sh} {cs : List Rat} {kp kw kc ki : Nat} (t : TolOk ws ss cs kp kw kc ki) {x : Rat} (hx : Ht x kp) : Ht (hor cs x) (1 + (cs.length + 1) * (kp + kc + ki + 2)) := by
  refine (hor_ht t.c hx).up ?_
  have : cs.length * (kp + kc + 1) ≤ (cs.length + 1) * (kp + kc + ki + 2) := Nat.mul_le_mul (by omega) (by omega)
  omega
theorem areaP_len (cs : List Rat) : (areaP cs).length = cs.length + 1 := by
  show (apow 0 cs).length + 1 = _
  rw [apow_len]
theorem TolOk.horA {ws : List Wt} {ss : List Sh} {cs : List Rat} {kp kw kc ki : Nat} (t : TolOk ws ss cs kp kw kc ki) {x : Rat} (hx : Ht x kp) : Ht (Bk.hor (areaP cs) x) (1 + (cs.length + 1) * (kp + kc + ki + 2)) := by
  refine (hor_ht (areaP_ht t.c t.i) hx).up ?_
  rw [areaP_len]
  have : (cs.length + 1) * (kp + (kc + ki + 1) + 1) ≤ (cs.length + 1) * (kp + kc + ki + 2) := Nat.mul_le_mul (Nat.le_refl _) (by omega)
  omega
theorem tolL_ht {ws : List Wt} {ss : List Sh} {cs : List Rat} {kp kw kc ki : Nat} (t : TolOk ws ss cs kp kw kc ki) : ∀ q ∈ tolL ws ss cs, Ht q (kw + 2 * (1 + (cs.length + 1) * (kp + kc + ki + 2)) + 1) := fun q hq => by
  rcases List.mem_append.mp hq with h | h
  · obtain ⟨w, hw, rfl⟩ := List.mem_map.mp h
    exact ((t.w w hw).2.mul (t.hor (t.w w hw).1)).up (by omega)
  · obtain ⟨s, hs, rfl⟩ := List.mem_map.mp h
    exact ((t.s s hs).2.2.mul ((t.horA (t.s s hs).2.1).sub (t.horA (t.s s hs).1))).up (by omega)
theorem tolL_len (ws : List Wt) (ss : List Sh) (cs : List Rat) : (tolL ws ss cs).length = ws.length + ss.length := by
  unfold tolL
  rw [List.length_append, List.length_map, List.length_map]
theorem TolOk.ht {ws : List Wt} {ss : List Sh} {cs : List Rat} {kp kw kc ki : Nat} (t : TolOk ws ss cs kp kw kc ki) : Ht (tol ws ss cs) 8990 := by
  rw [← tolL_sum]
  refine (sumQ_ht (tolL_ht t)).up ?_
  rw [tolL_len]
  have := t.t
  omega
end Bk
namespace Bk
open PySem L2
def rpow (q : Rat) : Nat → Rat
  | 0 => 1
  | n + 1 => rpow q n * q
def mono (n : Nat) : List Rat := List.replicate n 0 ++ [1]
def cntL (x : Rat) (l : List Rat) : Nat := (l.filter fun y => decide (y < x)).length
theorem cntL_zero {x : Rat} : ∀ {l : List Rat}, (∀ y ∈ l, ¬ y < x) → cntL x l = 0
  | [], _ => rfl
  | y :: l, h => by
    unfold cntL
    rw [List.filter_cons, if_neg (by simpa using h y List.mem_cons_self)]
    exact cntL_zero fun z hz => h z (List.mem_cons_of_mem _ hz)
def insAll (l acc : List Rat) : List Rat := l.foldl (fun a x => insU x a) acc
theorem insAll_ok : ∀ (l acc : List Rat), acc.Pairwise (· < ·) → (insAll l acc).Pairwise (· < ·) ∧ ∀ q, q ∈ insAll l acc ↔ q ∈ l ∨ q ∈ acc
  | [], acc, h => ⟨h, fun q => by simp [insAll]⟩
  | x :: l, acc, h => by
    obtain ⟨a, b⟩ := insAll_ok l (insU x acc) (insU_sorted h)
    refine ⟨a, fun q => ?_⟩
    show q ∈ insAll l (insU x acc) ↔ _
    rw [b, mem_insU, List.mem_cons]
    constructor
    · rintro (z | z | z)
      · exact .inl (.inr z)
      · exact .inl (.inl z)
      · exact .inr z
    · rintro ((z | z) | z)
      · exact .inr (.inl z)
      · exact .inl z
      · exact .inr (.inr z)
theorem insAll_asc (l : List Rat) : insAll l [] = asc l := by
  obtain ⟨a, b⟩ := insAll_ok l [] .nil
  exact sorted_uniq a (asc_sorted l) fun q => by rw [b, mem_asc]; simp
theorem xby_mu {i : Nat} {a b : M R} {G : Gam} {o : Option (R × Gam)} (h : isMu G i = true) (h2 : a G = o) : xby i a b G = o := by
  unfold xby
  rw [if_pos h, h2]
theorem xdrop_ok {a : M R} {G G1 : Gam} {r : R} (h : a G = some (r, G1)) : xdrop a G = some (.nx, G1) := by
  unfold xdrop
  rw [h]
  rfl
theorem enc_of {α : Type} {en : α → D} {P : α → Prop} : ∀ {out : List D}, (∀ d ∈ out, ∃ x, d = en x ∧ P x) → ∃ xs : List α, out = xs.map en ∧ ∀ x ∈ xs, P x
  | [], _ => ⟨[], rfl, by simp⟩
  | d :: out, h => by
    obtain ⟨x, hx, px⟩ := h d List.mem_cons_self
    obtain ⟨xs, e, p⟩ := enc_of (out := out) fun z hz => h z (List.mem_cons_of_mem _ hz)
    refine ⟨x :: xs, by rw [hx, e]; rfl, fun y hy => ?_⟩
    rcases List.mem_cons.mp hy with rfl | hy
    · exact px
    · exact p y hy
end Bk
namespace Bk
theorem ht_of {n : Int} {d : Nat} {k : Nat} (q : Rat) (h : q.num = n) (h' : q.den = d) (hn : n.natAbs < 2 ^ k) (hd : d < 2 ^ k) : Ht q k := ⟨by unfold Sm; rw [h]; exact hn, by unfold Sm; rw [h', Int.natAbs_natCast]; exact hd⟩
end Bk
namespace Bk
open PySem L2
/-- the values by powers -/
def powL (x : Rat) : Nat → List Rat → List Rat
  | _, [] => []
  | i, c :: cs => c * rpow x i :: powL x (i + 1) cs
theorem powL_len (x : Rat) : ∀ (i : Nat) (cs : List Rat), (powL x i cs).length = cs.length
  | _, [] => rfl
  | i, c :: cs => by show (powL x (i + 1) cs).length + 1 = _; rw [powL_len x (i + 1) cs]; rfl
theorem powL_sum (x : Rat) : ∀ (cs : List Rat) (i : Nat), sumQ (powL x i cs) = rpow x i * hor cs x
  | [], i => by show (0 : Rat) = _ * 0; grind
  | c :: cs, i => by
    show sumQ (c * rpow x i :: powL x (i + 1) cs) = rpow x i * (hor cs x * x + c)
    rw [sumQ_cons, powL_sum x cs (i + 1)]
    show c * rpow x i + rpow x i * x * hor cs x = _
    grind
theorem powL_hor (x : Rat) (cs : List Rat) : sumQ (powL x 0 cs) = hor cs x := by
  rw [powL_sum]
  show 1 * _ = _
  grind
def kk (n : Nat) (t x : Rat) : Rat := if t < x then rpow (x - t) n else 0
def Dv (D B : Nat) (q : Rat) : Prop := D ≠ 0 ∧ ∃ z : Int, q * ((D : Int) : Rat) = (z : Rat) ∧ z.natAbs ≤ B
theorem natR_ne {D : Nat} (h : D ≠ 0) : ((D : Int) : Rat) ≠ 0 := fun z => h (by have := Rat.intCast_eq_zero_iff.mp z; omega)
theorem natR_mul (D E : Nat) : (((D * E : Nat) : Int) : Rat) = ((D : Int) : Rat) * ((E : Int) : Rat) := by rw [Int.natCast_mul, Rat.intCast_mul]
theorem Dv.ht {D B k : Nat} {q : Rat} (h : Dv D B q) (h1 : D < 2 ^ k) (h2 : B < 2 ^ k) : Ht q k := by
  obtain ⟨hd, z, e, hz⟩ := h
  have hn := natR_ne hd
  have eq : q = Rat.divInt z (D : Int) := by
    rw [Rat.divInt_eq_div, ← e]
    generalize ((D : Int) : Rat) = y at hn
    exact (Rat.mul_div_cancel hn).symm
  rw [eq]
  exact ht_divInt (by omega) (by unfold Sm; omega) (by unfold Sm; omega)
theorem Dv.up {D B B' : Nat} {q : Rat} (h : Dv D B q) (hb : B ≤ B') : Dv D B' q := by
  obtain ⟨hd, z, e, hz⟩ := h
  exact ⟨hd, z, e, by omega⟩
theorem Dv.add {D B C : Nat} {a b : Rat} (h : Dv D B a) (h' : Dv D C b) : Dv D (B + C) (a + b) := by
  obtain ⟨hd, z, e, hz⟩ := h
  obtain ⟨_, w, f, hw⟩ := h'
  refine ⟨hd, z + w, ?_, by omega⟩
  rw [Rat.intCast_add, ← e, ← f]
  grind
theorem Dv.neg {D B : Nat} {a : Rat} (h : Dv D B a) : Dv D B (-a) := by
  obtain ⟨hd, z, e, hz⟩ := h
  refine ⟨hd, -z, ?_, by omega⟩
  rw [Rat.intCast_neg, ← e]
  grind
theorem Dv.sub {D B C : Nat} {a b : Rat} (h : Dv D B a) (h' : Dv D C b) : Dv D (B + C) (a - b) := by
  rw [show a - b = a + -b by grind]
  exact h.add h'.neg
theorem Dv.mul {D E B C : Nat} {a b : Rat} (h : Dv D B a) (h' : Dv E C b) : Dv (D * E) (B * C) (a * b) := by
  obtain ⟨hd, z, e, hz⟩ := h
  obtain ⟨he, w, f, hw⟩ := h'
  refine ⟨Nat.mul_ne_zero hd he, z * w, ?_, by rw [Int.natAbs_mul]; exact Nat.mul_le_mul hz hw⟩
  rw [natR_mul, Rat.intCast_mul, ← e, ← f]
  grind
theorem Dv.one : Dv 1 1 1 := ⟨by decide, 1, by decide +kernel, by decide⟩
theorem Dv.zero {D : Nat} (h : D ≠ 0) : Dv D 0 0 := ⟨h, 0, by rw [Rat.zero_mul]; rfl, by decide⟩
theorem Dv.scale {D B : Nat} {q : Rat} (h : Dv D B q) {m : Nat} (hm : m ≠ 0) : Dv (D * m) (B * m) q := by
  obtain ⟨hd, z, e, hz⟩ := h
  refine ⟨Nat.mul_ne_zero hd hm, z * (m : Int), ?_, by rw [Int.natAbs_mul, Int.natAbs_natCast]; exact Nat.mul_le_mul hz (Nat.le_refl m)⟩
  rw [natR_mul, Rat.intCast_mul, ← e]
  grind
theorem Dv.sum {D B : Nat} (hD : D ≠ 0) : ∀ {l : List Rat}, (∀ q ∈ l, Dv D B q) → Dv D (l.length * B) (sumQ l)
  | [], _ => (Dv.zero hD).up (by omega)
  | x :: l, h => by
    rw [sumQ_cons]
    exact ((h x List.mem_cons_self).add (Dv.sum hD fun q hq => h q (List.mem_cons_of_mem _ hq))).up (by rw [List.length_cons, Nat.add_mul]; omega)
theorem Dv.rpow {D B : Nat} {q : Rat} (h : Dv D B q) : ∀ n : Nat, Dv (D ^ n) (B ^ n) (rpow q n)
  | 0 => Dv.one
  | n + 1 => by
    rw [Nat.pow_succ, Nat.pow_succ]
    exact (Dv.rpow h n).mul h
theorem Dv.powUp {D B : Nat} {q : Rat} (h : Dv D B q) (hb : D ≤ B) {n N : Nat} (hn : n ≤ N) : Dv (D ^ N) (B ^ N) (Bk.rpow q n) := by
  have e : N = n + (N - n) := by omega
  rw [e, Nat.pow_add, Nat.pow_add]
  exact ((h.rpow n).scale (Nat.pos_iff_ne_zero.mp (Nat.pow_pos (Nat.pos_of_ne_zero h.1)))).up (Nat.mul_le_mul (Nat.le_refl _) (Nat.pow_le_pow_left hb _))
theorem Dv.part {D B : Nat} {q : Rat} (h : Dv D B q) {M : Nat} (hM : M ≠ 0) {m : Int} (hm : m ≠ 0) (hd : m ∣ (M : Int)) : Dv (D * M) (B * M) (q / (m : Rat)) := by
  obtain ⟨hD, z, e, hz⟩ := h
  obtain ⟨k, hk⟩ := hd
  have hmr : (m : Rat) ≠ 0 := fun z => hm (Rat.intCast_eq_zero_iff.mp z)
  refine ⟨Nat.mul_ne_zero hD hM, z * k, ?_, ?_⟩
  · have e2 : ((M : Int) : Rat) = (m : Rat) * (k : Rat) := by rw [hk, Rat.intCast_mul]
    rw [natR_mul, e2, Rat.intCast_mul, ← e]
    generalize (m : Rat) = y at hmr
    have : q / y * y = q := Rat.div_mul_cancel hmr
    rw [show q / y * (((D : Int) : Rat) * (y * (k : Rat))) = (q / y * y) * ((D : Int) : Rat) * (k : Rat) by grind, this]
  · rw [Int.natAbs_mul]
    refine Nat.mul_le_mul hz ?_
    have h1 : (M : Int).natAbs = m.natAbs * k.natAbs := by rw [hk, Int.natAbs_mul]
    rw [Int.natAbs_natCast] at h1
    rw [h1]
    exact Nat.le_mul_of_pos_left _ (by omega)
theorem powL_dv {x : Rat} {D X C Y n : Nat} (hx : Dv D X x) (hX : D ≤ X) : ∀ {cs : List Rat} {i : Nat}, (∀ c ∈ cs, Dv C Y c) → i + cs.length ≤ n + 1 → ∀ q ∈ powL x i cs, Dv (C * D ^ n) (Y * X ^ n) q
  | [], _, _, _, q, h => by simp [powL] at h
  | c :: cs, i, hc, hn, q, h => by
    rw [List.length_cons] at hn
    rcases List.mem_cons.mp h with rfl | h
    · exact (hc c List.mem_cons_self).mul (hx.powUp hX (by omega))
    · exact powL_dv hx hX (cs := cs) (i := i + 1) (fun y hy => hc y (List.mem_cons_of_mem _ hy)) (by omega) q h
theorem hor_dv {x : Rat} {D X C Y n : Nat} {cs : List Rat} (hx : Dv D X x) (hX : D ≤ X) (hC : C ≠ 0) (hc : ∀ c ∈ cs, Dv C Y c) (hn : cs.length ≤ n + 1) : Dv (C * D ^ n) ((n + 1) * (Y * X ^ n)) (hor cs x) := by
  rw [← powL_hor]
  have hD := Nat.pos_iff_ne_zero.mp (Nat.pow_pos (n := n) (Nat.pos_of_ne_zero hx.1))
  refine (Dv.sum (Nat.mul_ne_zero hC hD) (powL_dv hx hX hc (by omega))).up ?_
  rw [powL_len]
  exact Nat.mul_le_mul hn (Nat.le_refl _)
theorem apow_dv {C Y M : Nat} (hM : M ≠ 0) {n : Nat} (hd : ∀ i : Nat, i < n → ((i : Int) + 1) ∣ (M : Int)) : ∀ {cs : List Rat} {i : Nat}, (∀ c ∈ cs, Dv C Y c) → i + cs.length ≤ n → ∀ q ∈ apow i cs, Dv (C * M) (Y * M) q
  | [], _, _, _, q, h => by simp [apow] at h
  | c :: cs, i, hc, hn, q, h => by
    rw [List.length_cons] at hn
    rcases List.mem_cons.mp h with rfl | h
    · exact (hc c List.mem_cons_self).part hM (by omega) (hd i (by omega))
    · exact apow_dv hM hd (cs := cs) (i := i + 1) (fun y hy => hc y (List.mem_cons_of_mem _ hy)) (by omega) q h
end Bk
namespace Bk
open PySem L2
def SE (a b : List Sh) : Prop := ∀ F : Rat → Rat, sval F a = sval F b
def WE (a b : List Wt) : Prop := ∀ f : Rat → Rat, wval f a = wval f b
theorem SE.refl (a : List Sh) : SE a a := fun _ => rfl
theorem SE.symm {a b : List Sh} (h : SE a b) : SE b a := fun F => (h F).symm
theorem SE.trans {a b c : List Sh} (h : SE a b) (h' : SE b c) : SE a c := fun F => (h F).trans (h' F)
theorem WE.refl (a : List Wt) : WE a a := fun _ => rfl
theorem WE.symm {a b : List Wt} (h : WE a b) : WE b a := fun F => (h F).symm
theorem WE.trans {a b c : List Wt} (h : WE a b) (h' : WE b c) : WE a c := fun F => (h F).trans (h' F)
theorem se_ls {ss : List Sh} (h : ∀ s ∈ ss, s.1 ≤ s.2.1) : SE (lsOf ss) ss := fun F => sval_ls F ss h
theorem wval_app (f : Rat → Rat) (a b : List Wt) : wval f (a ++ b) = wval f a + wval f b := sumM_app _ _ _
theorem sval_app (F : Rat → Rat) (a b : List Sh) : sval F (a ++ b) = sval F a + sval F b := sumM_app _ _ _
theorem WE.app {a b c d : List Wt} (h : WE a b) (h' : WE c d) : WE (a ++ c) (b ++ d) := fun f => by rw [wval_app, wval_app, h f, h' f]
theorem SE.app {a b c d : List Sh} (h : SE a b) (h' : SE c d) : SE (a ++ c) (b ++ d) := fun f => by rw [sval_app, sval_app, h f, h' f]
/-- points and weights led by functions -/
theorem WE.map {a b : List Wt} (h : WE a b) (g : Rat → Rat) (k : Rat) : WE (a.map fun w => (g w.1, k * w.2)) (b.map fun w => (g w.1, k * w.2)) := fun f => by
  have e : ∀ l : List Wt, wval f (l.map fun w => (g w.1, k * w.2)) = wval (fun x => k * f (g x)) l := fun l => by
    unfold wval
    rw [sumM_map]
    exact sumM_congr fun w _ => by show k * w.2 * f (g w.1) = w.2 * (k * f (g w.1)); grind
  rw [e, e, h]
theorem SE.map {a b : List Sh} (h : SE a b) (g : Rat → Rat) (k : Rat) : SE (a.map fun s => (g s.1, g s.2.1, k * s.2.2)) (b.map fun s => (g s.1, g s.2.1, k * s.2.2)) := fun f => by
  have e : ∀ l : List Sh, sval f (l.map fun s => (g s.1, g s.2.1, k * s.2.2)) = sval (fun x => k * f (g x)) l := fun l => by
    unfold sval
    rw [sumM_map]
    exact sumM_congr fun s _ => by show k * s.2.2 * (f (g s.2.1) - f (g s.1)) = s.2.2 * (k * f (g s.2.1) - k * f (g s.1)); grind
  rw [e, e, h]
def Cont : List Sh → Prop
  | [] => True
  | [s] => s.1 < s.2.1
  | s :: t :: r => s.1 < s.2.1 ∧ s.2.1 = t.1 ∧ s.2.2 ≠ t.2.2 ∧ Cont (t :: r)
theorem cont_snoc : ∀ {l : List Sh} {x : Sh}, Cont (l ++ [x]) ↔ Cont l ∧ x.1 < x.2.1 ∧ ∀ y, l.getLast? = some y → y.2.1 = x.1 ∧ y.2.2 ≠ x.2.2
  | [], x => by simp [Cont]
  | [s], x => by
    show (s.1 < s.2.1 ∧ s.2.1 = x.1 ∧ s.2.2 ≠ x.2.2 ∧ x.1 < x.2.1) ↔ _
    simp [Cont]
    grind
  | s :: t :: r, x => by
    have ih := cont_snoc (l := t :: r) (x := x)
    show (s.1 < s.2.1 ∧ s.2.1 = t.1 ∧ s.2.2 ≠ t.2.2 ∧ Cont ((t :: r) ++ [x])) ↔ _
    rw [ih, List.getLast?_cons_cons]
    show _ ↔ (s.1 < s.2.1 ∧ s.2.1 = t.1 ∧ s.2.2 ≠ t.2.2 ∧ Cont (t :: r)) ∧ _
    constructor
    · rintro ⟨a, b, c, d, e, f⟩
      exact ⟨⟨a, b, c, d⟩, e, f⟩
    · rintro ⟨⟨a, b, c, d⟩, e, f⟩
      exact ⟨a, b, c, d, e, f⟩
theorem lsGo_cont (ss : List Sh) : ∀ (pts : List Rat) (acc : List Sh), pts.Pairwise (· < ·) → Cont acc → (∀ x, acc.getLast? = some x → ∀ lo r, pts = lo :: r → x.2.1 = lo) → Cont (lsGo ss acc pts)
  | [], acc, _, ha, _ => by unfold lsGo; exact ha
  | [_], acc, _, ha, _ => by unfold lsGo; exact ha
  | lo :: hi :: r, acc, hp, ha, hl => by
    have h1 := List.pairwise_cons.mp hp
    have hlt := h1.1 hi List.mem_cons_self
    refine lsGo_cont ss (hi :: r) (lsStep ss acc lo hi) h1.2 ?_ (fun x hx lo' r' e => ?_)
    · unfold lsStep
      split
      · rename_i x hx
        have el := hl x hx lo (hi :: r) rfl
        split
        · rename_i es
          have ea := getLast_split hx
          rw [ea, cont_snoc] at ha
          refine cont_snoc.mpr ⟨ha.1, ?_, fun y hy => ?_⟩
          · have := ha.2.1
            show x.1 < hi
            grind
          · obtain ⟨a, b⟩ := ha.2.2 y hy
            exact ⟨a, by rw [← es]; exact b⟩
        · rename_i es
          refine cont_snoc.mpr ⟨ha, hlt, fun y hy => ?_⟩
          rw [hx] at hy
          cases hy
          exact ⟨el, es⟩
      · rename_i hx
        refine cont_snoc.mpr ⟨ha, hlt, fun y hy => ?_⟩
        rw [hx] at hy
        cases hy
    · cases e
      unfold lsStep at hx
      split at hx
      · split at hx <;> simp at hx <;> rw [← hx]
      · simp at hx; rw [← hx]
inductive Can : List Sh → Prop
  | nil : Can []
  | cons {s : Sh} {r : List Sh} : s.1 < s.2.1 → s.2.2 ≠ 0 → (∀ t ∈ r, s.2.1 ≤ t.1) → (∀ t ∈ r, s.2.1 = t.1 → s.2.2 ≠ t.2.2) → Can r → Can (s :: r)
theorem cont_ge : ∀ {s : Sh} {r : List Sh}, Cont (s :: r) → ∀ t ∈ r, s.2.1 ≤ t.1
  | _, [], _ => by simp
  | s, u :: r, h => fun t ht => by
    obtain ⟨a, b, c, d⟩ := h
    rcases List.mem_cons.mp ht with rfl | ht
    · rw [b]; exact Rat.le_refl
    · have := cont_ge d t ht
      have hu : u.1 < u.2.1 := by
        cases r with
        | nil => exact d
        | cons v r => exact d.1
      grind
theorem cont_can : ∀ {l : List Sh}, Cont l → Can (l.filter fun s => !decide (s.2.2 = 0))
  | [], _ => .nil
  | s :: r, h => by
    have hs : s.1 < s.2.1 := by
      cases r with
      | nil => exact h
      | cons t r => exact h.1
    have hr : Cont r := by
      cases r with
      | nil => trivial
      | cons t r => exact h.2.2.2
    have ih := cont_can hr
    have hg := cont_ge h
    rw [List.filter_cons]
    split
    · rename_i h0
      have h0 : s.2.2 ≠ 0 := by simpa using h0
      refine .cons hs h0 (fun t ht => hg t (List.mem_filter.mp ht).1) (fun t ht e => ?_) ih
      have htr := (List.mem_filter.mp ht).1
      cases r with
      | nil => simp at htr
      | cons u r =>
        rcases List.mem_cons.mp htr with rfl | h2
        · exact h.2.2.1
        · exfalso
          have a := cont_ge h.2.2.2 t h2
          have hu : u.1 < u.2.1 := by
            cases r with
            | nil => exact hr
            | cons v r => exact hr.1
          have := h.2.1
          grind
    · exact ih
theorem lsOf_can (ss : List Sh) : Can (lsOf ss) := cont_can (lsGo_cont ss _ [] (asc_sorted _) trivial (by simp))
/-- what stands at x, to the right -/
def dn (x : Rat) (l : List Sh) : Rat := sval (fun y => if x < y then 1 else 0) l
theorem dn_cons (x : Rat) (s : Sh) (l : List Sh) : dn x (s :: l) = s.2.2 * ((if x < s.2.1 then 1 else 0) - (if x < s.1 then 1 else 0)) + dn x l := by
  unfold dn sval
  rw [sumM_cons]
theorem dn_zero {x : Rat} : ∀ {l : List Sh}, Can l → (∀ t ∈ l, x < t.1) → dn x l = 0
  | [], _, _ => rfl
  | s :: l, h, hx => by
    cases h with
    | cons a b c d e =>
      have := hx s List.mem_cons_self
      rw [dn_cons, dn_zero e fun t ht => hx t (List.mem_cons_of_mem _ ht), if_pos this, if_pos (by grind)]
      grind
theorem dn_in {x : Rat} {s : Sh} {l : List Sh} (h : Can (s :: l)) (h1 : s.1 ≤ x) (h2 : x < s.2.1) : dn x (s :: l) = s.2.2 := by
  cases h with
  | cons a b c d e =>
    rw [dn_cons, dn_zero e fun t ht => by have := c t ht; grind, if_pos h2, if_neg (by grind)]
    grind
theorem rtri (a b : Rat) : a < b ∨ a = b ∨ b < a := by grind
theorem can_uniq : ∀ {l l' : List Sh}, Can l → Can l' → SE l l' → l = l'
  | [], [], _, _, _ => rfl
  | [], s :: r, _, h, e => by
    exfalso
    have e1 : dn s.1 [] = dn s.1 (s :: r) := e _
    cases h with
    | cons a b c d f =>
      rw [dn_in (.cons a b c d f) Rat.le_refl a] at e1
      exact b e1.symm
  | s :: r, [], h, _, e => by
    exfalso
    have e1 : dn s.1 (s :: r) = dn s.1 [] := e _
    cases h with
    | cons a b c d f =>
      rw [dn_in (.cons a b c d f) Rat.le_refl a] at e1
      exact b e1
  | s :: r, s' :: r', h, h', e => by
    have hh := h
    have hh' := h'
    cases h with
    | cons a b c d f =>
    cases h' with
    | cons a' b' c' d' f' =>
    have dd : ∀ x, dn x (s :: r) = dn x (s' :: r') := fun x => e _
    have p1 : s.1 = s'.1 := by
      rcases rtri s.1 s'.1 with z | z | z
      · exfalso
        have e1 := dd s.1
        rw [dn_in hh Rat.le_refl a, dn_zero hh' (fun t ht => by
          rcases List.mem_cons.mp ht with rfl | ht
          · exact z
          · have := c' t ht; grind)] at e1
        exact b e1
      · exact z
      · exfalso
        have e1 := dd s'.1
        rw [dn_in hh' Rat.le_refl a', dn_zero hh (fun t ht => by
          rcases List.mem_cons.mp ht with rfl | ht
          · exact z
          · have := c t ht; grind)] at e1
        exact b' e1.symm
    have p3 : s.2.2 = s'.2.2 := by
      have e1 := dd s.1
      rw [dn_in hh Rat.le_refl a, dn_in hh' (by rw [p1]; exact Rat.le_refl) (by rw [p1]; exact a')] at e1
      exact e1
    have side : ∀ {s s' : Sh} {r r' : List Sh}, Can (s :: r) → Can (s' :: r') → (∀ x, dn x (s :: r) = dn x (s' :: r')) → s.1 = s'.1 → s.2.2 = s'.2.2 → ¬ s.2.1 < s'.2.1 := by
      intro s s' r r' h h' dd p1 p3 z
      have hh := h
      have hh' := h'
      cases h with
      | cons a b c d f =>
      cases h' with
      | cons a' b' c' d' f' =>
      have e1 := dd s.2.1
      rw [dn_in hh' (by grind) z, dn_cons, if_neg (by grind), if_neg (by grind)] at e1
      have e2 : dn s.2.1 r = s'.2.2 := by grind
      cases r with
      | nil => exact b' e2.symm
      | cons t r =>
        by_cases y : t.1 = s.2.1
        · have ft := f
          cases f with
          | cons a2 b2 c2 d2 f2 =>
          rw [dn_in ft (by rw [y]; exact Rat.le_refl) (by rw [← y]; exact a2)] at e2
          exact d t List.mem_cons_self y.symm (by rw [p3, e2])
        · rw [dn_zero f fun u hu => by
            have k := c t List.mem_cons_self
            have k2 : s.2.1 < t.1 := by grind
            cases f with
            | cons a2 b2 c2 d2 f2 =>
            rcases List.mem_cons.mp hu with rfl | hu
            · exact k2
            · have := c2 u hu; grind] at e2
          exact b' e2.symm
    have p2 : s.2.1 = s'.2.1 := by
      rcases rtri s.2.1 s'.2.1 with z | z | z
      · exact absurd z (side hh hh' dd p1 p3)
      · exact z
      · exact absurd z (side hh' hh (fun x => (dd x).symm) p1.symm p3.symm)
    have es : s = s' := Prod.ext p1 (Prod.ext p2 p3)
    subst es
    refine congrArg (s :: ·) (can_uniq f f' fun F => ?_)
    have := e F
    unfold sval at this ⊢
    rw [sumM_cons, sumM_cons] at this
    grind
/-- a rule's parts, and their sizes -/
structure Rl (lo hi : Rat) (ws : List Wt) (ss : List Sh) (k n : Nat) : Prop where
  l : Ht lo k
  h : Ht hi k
  lt : lo < hi
  w : ∀ w ∈ ws, Ht w.1 k ∧ Ht w.2 k ∧ lo ≤ w.1 ∧ w.1 ≤ hi
  s : ∀ s ∈ ss, Ht s.1 k ∧ Ht s.2.1 k ∧ Ht s.2.2 k ∧ lo ≤ s.1 ∧ s.1 < s.2.1 ∧ s.2.1 ≤ hi
  wl : ws.length ≤ n
  sl : ss.length ≤ n
theorem Rl.up {lo hi : Rat} {ws : List Wt} {ss : List Sh} {k n k' n' : Nat} (r : Rl lo hi ws ss k n) (hk : k ≤ k') (hn : n ≤ n') : Rl lo hi ws ss k' n' :=
  ⟨r.l.up hk, r.h.up hk, r.lt, fun w hw => ⟨(r.w w hw).1.up hk, (r.w w hw).2.1.up hk, (r.w w hw).2.2⟩, fun s hs => ⟨(r.s s hs).1.up hk, (r.s s hs).2.1.up hk, (r.s s hs).2.2.1.up hk, (r.s s hs).2.2.2⟩, Nat.le_trans r.wl hn, Nat.le_trans r.sl hn⟩
end Bk
namespace Bk
open PySem L2
/-- turns that draw, counted -/
theorem xlcL_exm {tg : D → Gam → Option Gam} {e : M R} {vs : List Nat} (Inv : Nat → Gam → Prop) (Qd : D → Prop) (N : Nat) : ∀ {ds : List D} {n : Nat} {G : Gam}, Inv n G → (∀ d ∈ ds, ∀ n, n < N → ∀ G, Inv n G → ∃ G1 r G2, tg d G = some G1 ∧ e G1 = some (r, G2) ∧ Qd r.d ∧ Inv (n + 1) (wipeG G2 vs)) → n + ds.length ≤ N →
    ∃ out G', xlcL tg xtyes e vs ds G = some (out, G') ∧ Inv (n + ds.length) G' ∧ (∀ d ∈ out, Qd d) ∧ out.length = ds.length
  | [], n, G, h, _, _ => ⟨[], G, rfl, h, (by simp), rfl⟩
  | d :: ds, n, G, h, hs, hn => by
    rw [List.length_cons] at hn
    obtain ⟨G1, r, G2, h1, h2, h3, h4⟩ := hs d List.mem_cons_self n (by omega) G h
    obtain ⟨out, G', i1, i2, i3, i4⟩ := xlcL_exm (tg := tg) (e := e) (vs := vs) Inv Qd N h4 (fun z hz => hs z (List.mem_cons_of_mem _ hz)) (by omega)
    refine ⟨r.d :: out, G', ?_, by rw [List.length_cons, show n + (ds.length + 1) = n + 1 + ds.length by omega]; exact i2, fun z hz => ?_, by rw [List.length_cons, i4, List.length_cons]⟩
    · unfold xlcL
      rw [h1]
      simp only [bd_some, xtyes, if_true, h2]
      have i1' := i1
      unfold xtyes at i1'
      first
        | rw [i1']; rfl
        | rw [i1]; rfl
    · rcases List.mem_cons.mp hz with rfl | hz
      · exact h3
      · exact i3 z hz
def lagZ (w : Rat) : List Rat → List Rat → List Rat
  | h :: hs, l :: ls => ((h - l) / w) :: lagZ w hs ls
  | _, _ => []
theorem lagZ_zip (w : Rat) : ∀ (hs ls : List Rat), lagZ w hs ls = (hs.zip ls).map fun p => (p.1 - p.2) / w
  | [], _ => by simp [lagZ]
  | _ :: _, [] => by simp [lagZ]
  | h :: hs, l :: ls => by
    show ((h - l) / w) :: lagZ w hs ls = _
    rw [lagZ_zip w hs ls]
    rfl
theorem lagZ_len (w : Rat) : ∀ (hs ls : List Rat), hs.length = ls.length → (lagZ w hs ls).length = hs.length
  | [], [], _ => rfl
  | h :: hs, l :: ls, e => by
    show (lagZ w hs ls).length + 1 = hs.length + 1
    rw [lagZ_len w hs ls (by simpa using e)]
  | [], _ :: _, h => by simp at h
  | _ :: _, [], h => by simp at h
def lagS (w o : Rat) (f : List Rat) : List Rat := lagZ w (0 :: f) ((f ++ [0]).map fun c => c * o)
theorem lagS_len (w o : Rat) (f : List Rat) : (lagS w o f).length = f.length + 1 := lagZ_len _ _ _ (by simp)
def lag (p : Rat) : List Rat → List Rat → List Rat
  | f, [] => f
  | f, o :: os => lag p (lagS (p - o) o f) os
theorem lag_len (p : Rat) : ∀ (os f : List Rat), (lag p f os).length = f.length + os.length
  | [], f => rfl
  | o :: os, f => by
    show (lag p (lagS (p - o) o f) os).length = _
    rw [lag_len p os, lagS_len, List.length_cons]
    omega
def oth (pts : List Rat) (p : Rat) : List Rat := pts.filter fun q => !decide (q = p)
theorem oth_out {p : Rat} : ∀ {pts : List Rat}, p ∉ pts → oth pts p = pts
  | [], _ => rfl
  | q :: pts, h => by
    have h1 : q ≠ p := fun e => h (e ▸ List.mem_cons_self)
    have h2 : p ∉ pts := fun e => h (List.mem_cons_of_mem _ e)
    show List.filter _ (q :: pts) = _
    rw [List.filter_cons, decide_eq_false h1]
    simp only [Bool.not_false, if_true]
    rw [show List.filter (fun q => !decide (q = p)) pts = pts from oth_out h2]
theorem oth_len {p : Rat} : ∀ {pts : List Rat}, pts.Pairwise (· < ·) → p ∈ pts → (oth pts p).length + 1 = pts.length
  | q :: pts, hp, h => by
    have h1 := List.pairwise_cons.mp hp
    show (List.filter _ (q :: pts)).length + 1 = _
    rw [List.filter_cons]
    by_cases e : q = p
    · rw [decide_eq_true e]
      have : p ∉ pts := fun hm => by
        have := h1.1 p hm
        rw [e] at this
        exact absurd this Rat.lt_irrefl
      simp only [Bool.not_true, Bool.false_eq_true, if_false]
      rw [show List.filter (fun q => !decide (q = p)) pts = pts from oth_out this, List.length_cons]
    · rw [decide_eq_false e]
      rcases List.mem_cons.mp h with h | h
      · exact absurd h.symm e
      · have := oth_len h1.2 h
        simp only [Bool.not_false, if_true, List.length_cons]
        show (oth pts p).length + 1 + 1 = _
        omega
def lagP (pts : List Rat) (p : Rat) : List Rat := lag p [1] (oth pts p)
theorem lagP_len {pts : List Rat} (h : pts.Pairwise (· < ·)) {p : Rat} (hp : p ∈ pts) : (lagP pts p).length = pts.length := by
  unfold lagP
  rw [lag_len, List.length_singleton]
  have := oth_len h hp
  omega
theorem dv_pt {p o : Rat} (hp : Dv 72 1300 p) (ho : Dv 72 1300 o) (hne : p ≠ o) : ∃ W : Int, W ≠ 0 ∧ W.natAbs ≤ 2600 ∧ (p - o) * ((72 : Int) : Rat) = (W : Rat) := by
  obtain ⟨_, z, hz, hz2⟩ := hp.sub ho
  refine ⟨z, fun h0 => ?_, hz2, hz⟩
  rw [h0] at hz
  have h7 : (((72 : Nat) : Int) : Rat) ≠ 0 := natR_ne (by decide)
  rcases Rat.mul_eq_zero.mp (hz.trans rfl) with h1 | h1
  · exact hne (by grind)
  · exact h7 h1
theorem lagS_dv {p o : Rat} (hp : Dv 72 1300 p) (ho : Dv 72 1300 o) (hne : p ≠ o) {D B : Nat} {f : List Rat} (hf : ∀ c ∈ f, Dv D B c) (hD : D ≠ 0) :
    ∃ D', D' ≠ 0 ∧ D' ≤ D * 2600 ∧ ∀ c ∈ lagS (p - o) o f, Dv D' (B * 1372) c := by
  obtain ⟨W, hW, hW2, hWe⟩ := dv_pt hp ho hne
  obtain ⟨_, O, hO, hO2⟩ := ho
  refine ⟨D * W.natAbs, Nat.mul_ne_zero hD (by omega), Nat.mul_le_mul (Nat.le_refl _) hW2, fun c hc => ?_⟩
  unfold lagS at hc
  rw [lagZ_zip] at hc
  obtain ⟨⟨a, b⟩, hab, rfl⟩ := List.mem_map.mp hc
  obtain ⟨ha, hb⟩ := List.of_mem_zip hab
  have ha' : Dv D B a := by
    rcases List.mem_cons.mp ha with rfl | ha
    · exact (Dv.zero hD).up (Nat.zero_le _)
    · exact hf a ha
  obtain ⟨b', hb', rfl⟩ := List.mem_map.mp hb
  have hb'' : Dv D B b' := by
    rcases List.mem_append.mp hb' with hb' | hb'
    · exact hf b' hb'
    · rw [List.mem_singleton.mp hb']
      exact (Dv.zero hD).up (Nat.zero_le _)
  obtain ⟨_, x, hx, hx2⟩ := ha'
  obtain ⟨_, y, hy, hy2⟩ := hb''
  refine ⟨Nat.mul_ne_zero hD (by omega), (if 0 < W then 1 else -1) * (x * 72 - y * O), ?_, ?_⟩
  · have w1 : p - o ≠ 0 := fun h => hne (by grind)
    have key : (a - b' * o) / (p - o) * (W : Rat) * ((D : Int) : Rat) = ((x * 72 - y * O : Int) : Rat) := by
      rw [← hWe, Rat.div_def]
      have i1 : (p - o)⁻¹ * (p - o) = 1 := Rat.inv_mul_cancel _ w1
      rw [Rat.intCast_sub, Rat.intCast_mul, Rat.intCast_mul, ← hx, ← hy, ← hO]
      have : (((72 : Nat) : Int) : Rat) = ((72 : Int) : Rat) := rfl
      grind
    rw [natR_mul]
    by_cases hs : 0 < W
    · rw [if_pos hs, Int.one_mul, show ((W.natAbs : Nat) : Int) = W by omega, ← key]
      show (a - b' * o) / (p - o) * _ = _
      grind
    · rw [if_neg hs, show ((W.natAbs : Nat) : Int) = -W by omega, Rat.intCast_mul, ← key, Rat.intCast_neg]
      show (a - b' * o) / (p - o) * _ = _
      have : ((-1 : Int) : Rat) = -1 := rfl
      grind
  · have e1 : ((if 0 < W then (1 : Int) else -1) * (x * 72 - y * O)).natAbs = (x * 72 - y * O).natAbs := by
      split <;> omega
    rw [e1]
    have h1 := Int.natAbs_sub_le (x * 72) (y * O)
    rw [Int.natAbs_mul, Int.natAbs_mul] at h1
    have h2 : x.natAbs * 72 ≤ B * 72 := Nat.mul_le_mul hx2 (Nat.le_refl _)
    have h3 : y.natAbs * O.natAbs ≤ B * 1300 := Nat.mul_le_mul hy2 hO2
    have h4 : (72 : Int).natAbs = 72 := rfl
    rw [h4] at h1
    omega
theorem lag_dv {p : Rat} (hp : Dv 72 1300 p) : ∀ (os f : List Rat) (D B : Nat), (∀ o ∈ os, Dv 72 1300 o ∧ p ≠ o) → D ≠ 0 → (∀ c ∈ f, Dv D B c) → ∃ D', D' ≠ 0 ∧ D' ≤ D * 2600 ^ os.length ∧ ∀ c ∈ lag p f os, Dv D' (B * 1372 ^ os.length) c
  | [], f, D, B, _, hD, hf => ⟨D, hD, by rw [List.length_nil]; omega, by rw [List.length_nil, Nat.pow_zero, Nat.mul_one]; exact hf⟩
  | o :: os, f, D, B, ho, hD, hf => by
    obtain ⟨D1, h1, h2, h3⟩ := lagS_dv hp (ho o List.mem_cons_self).1 (ho o List.mem_cons_self).2 hf hD
    obtain ⟨D2, g1, g2, g3⟩ := lag_dv hp os _ D1 _ (fun z hz => ho z (List.mem_cons_of_mem _ hz)) h1 h3
    refine ⟨D2, g1, Nat.le_trans g2 (Nat.le_trans (Nat.mul_le_mul h2 (Nat.le_refl _)) ?_), fun c hc => ?_⟩
    · rw [List.length_cons, Nat.pow_succ, Nat.mul_assoc, Nat.mul_comm 2600]
      exact Nat.le_refl _
    · have := g3 c hc
      rw [List.length_cons, Nat.pow_succ, Nat.mul_comm (1372 ^ os.length), ← Nat.mul_assoc]
      exact this
end Bk
namespace Bk
open PySem L2
theorem Can.lt {l : List Sh} (h : Can l) : ∀ s ∈ l, s.1 < s.2.1 := by
  induction h with
  | nil => simp
  | cons a b c d e ih => intro s hs; rcases List.mem_cons.mp hs with rfl | hs; exact a; exact ih s hs
structure Rw (lo hi : Rat) (ws : List Wt) (ss : List Sh) (DP BP DW BW n m : Nat) : Prop where
  lt : lo < hi
  l : Dv DP BP lo
  h : Dv DP BP hi
  w : ∀ w ∈ ws, Dv DP BP w.1 ∧ Dv DW BW w.2 ∧ lo ≤ w.1 ∧ w.1 ≤ hi
  s : ∀ s ∈ ss, Dv DP BP s.1 ∧ Dv DP BP s.2.1 ∧ Dv DW BW s.2.2 ∧ lo ≤ s.1 ∧ s.1 < s.2.1 ∧ s.2.1 ≤ hi
  wl : ws.length ≤ n
  sl : ss.length ≤ m
  dw : DW ≠ 0
section
variable {lo hi : Rat} {ws ws' : List Wt} {ss ss' : List Sh} {DP BP DW BW n m n' m' : Nat}
theorem Rw.up (r : Rw lo hi ws ss DP BP DW BW n m) {BP' BW' N M : Nat} (h1 : BP ≤ BP') (h2 : BW ≤ BW') (h3 : n ≤ N) (h4 : m ≤ M) : Rw lo hi ws ss DP BP' DW BW' N M :=
  ⟨r.lt, r.l.up h1, r.h.up h1, fun w hw => ⟨(r.w w hw).1.up h1, (r.w w hw).2.1.up h2, (r.w w hw).2.2⟩, fun s hs => by
    obtain ⟨a, b, c, d⟩ := r.s s hs
    exact ⟨a.up h1, b.up h1, c.up h2, d⟩, Nat.le_trans r.wl h3, Nat.le_trans r.sl h4, r.dw⟩
theorem Rw.nil (h : lo < hi) (h1 : Dv DP BP lo) (h2 : Dv DP BP hi) (h3 : DW ≠ 0) : Rw lo hi [] [] DP BP DW BW 0 0 := ⟨h, h1, h2, by simp, by simp, Nat.le_refl _, Nat.le_refl _, h3⟩
theorem Rw.app (r : Rw lo hi ws ss DP BP DW BW n m) (r' : Rw lo hi ws' ss' DP BP DW BW n' m') : Rw lo hi (ws ++ ws') (ss ++ ss') DP BP DW BW (n + n') (m + m') :=
  ⟨r.lt, r.l, r.h, fun w hw => (List.mem_append.mp hw).elim (r.w w) (r'.w w), fun s hs => (List.mem_append.mp hs).elim (r.s s) (r'.s s), by rw [List.length_append]; exact Nat.add_le_add r.wl r'.wl, by rw [List.length_append]; exact Nat.add_le_add r.sl r'.sl, r.dw⟩
def scW (f : Rat) (ws : List Wt) : List Wt := ws.map fun w => (w.1, w.2 * f)
def scS (f : Rat) (ss : List Sh) : List Sh := ss.map fun s => (s.1, s.2.1, s.2.2 * f)
theorem Rw.sc (r : Rw lo hi ws ss DP BP DW BW n m) {F G : Nat} {f : Rat} (hf : Dv F G f) : Rw lo hi (scW f ws) (scS f ss) DP BP (DW * F) (BW * G) n m := by
  refine ⟨r.lt, r.l, r.h, fun w hw => ?_, fun s hs => ?_, by unfold scW; rw [List.length_map]; exact r.wl, by unfold scS; rw [List.length_map]; exact r.sl, Nat.mul_ne_zero r.dw hf.1⟩
  · obtain ⟨v, hv, rfl⟩ := List.mem_map.mp hw
    exact ⟨(r.w v hv).1, (r.w v hv).2.1.mul hf, (r.w v hv).2.2⟩
  · obtain ⟨v, hv, rfl⟩ := List.mem_map.mp hs
    obtain ⟨a, b, c, d⟩ := r.s v hv
    exact ⟨a, b, c.mul hf, d⟩
theorem WE.sc {a b : List Wt} (h : WE a b) (f : Rat) : WE (scW f a) (scW f b) := by
  have := h.map (fun x => x) f
  have e : ∀ l : List Wt, (l.map fun w => (w.1, f * w.2)) = scW f l := fun l => by
    unfold scW
    refine List.map_congr_left fun w _ => ?_
    rw [Rat.mul_comm]
  rw [e, e] at this
  exact this
theorem SE.sc {a b : List Sh} (h : SE a b) (f : Rat) : SE (scS f a) (scS f b) := by
  have := h.map (fun x => x) f
  have e : ∀ l : List Sh, (l.map fun s => (s.1, s.2.1, f * s.2.2)) = scS f l := fun l => by
    unfold scS
    refine List.map_congr_left fun w _ => ?_
    rw [Rat.mul_comm]
  rw [e, e] at this
  exact this
def lpt (lo fi q p : Rat) : Rat := fi + (p - lo) * q
def ldW (lo fi q : Rat) (ws : List Wt) : List Wt := ws.map fun w => (lpt lo fi q w.1, w.2)
def ldS (lo fi q : Rat) (ss : List Sh) : List Sh := ss.map fun s => (lpt lo fi q s.1, lpt lo fi q s.2.1, s.2.2 / q)
theorem WE.ld {a b : List Wt} (h : WE a b) (lo fi q : Rat) : WE (ldW lo fi q a) (ldW lo fi q b) := by
  have := h.map (lpt lo fi q) 1
  have e : ∀ l : List Wt, (l.map fun w => (lpt lo fi q w.1, 1 * w.2)) = ldW lo fi q l := fun l => by
    unfold ldW
    refine List.map_congr_left fun w _ => ?_
    rw [Rat.one_mul]
  rw [e, e] at this
  exact this
theorem SE.ld {a b : List Sh} (h : SE a b) (lo fi q : Rat) : SE (ldS lo fi q a) (ldS lo fi q b) := by
  have := h.map (lpt lo fi q) q⁻¹
  have e : ∀ l : List Sh, (l.map fun s => (lpt lo fi q s.1, lpt lo fi q s.2.1, q⁻¹ * s.2.2)) = ldS lo fi q l := fun l => by
    unfold ldS
    refine List.map_congr_left fun w _ => ?_
    rw [Rat.div_def, Rat.mul_comm]
  rw [e, e] at this
  exact this
theorem lpt_lt {lo fi q a b : Rat} (hq : 0 < q) (h : a < b) : lpt lo fi q a < lpt lo fi q b := by
  unfold lpt
  have : 0 < (b - a) * q := Rat.mul_pos (by grind) hq
  grind
theorem lpt_le {lo fi q a b : Rat} (hq : 0 < q) (h : a ≤ b) : lpt lo fi q a ≤ lpt lo fi q b := by
  unfold lpt
  have : 0 ≤ (b - a) * q := Rat.mul_nonneg (by grind) (Rat.le_of_lt hq)
  grind
/-- one of so many -/
def qM (M : Nat) : Rat := 1 / ((M : Int) : Rat)
theorem mne {M : Nat} (h : 0 < M) : ((M : Int) : Rat) ≠ 0 := natR_ne (by omega)
theorem qM_pos {M : Nat} (h : 0 < M) : 0 < qM M := by
  unfold qM
  rw [Rat.div_def, Rat.one_mul]
  exact Rat.inv_pos.mpr (Rat.intCast_lt_intCast.mpr (by omega : (0 : Int) < (M : Int)))
theorem qM_mul {M : Nat} (h : 0 < M) : qM M * ((M : Int) : Rat) = 1 := by
  unfold qM
  exact Rat.div_mul_cancel (mne h)
theorem div_qM {M : Nat} (h : 0 < M) (x : Rat) : x / qM M = x * ((M : Int) : Rat) := by
  have h1 := qM_mul h
  have h2 : qM M ≠ 0 := by have := qM_pos h; grind
  have h3 := Rat.div_mul_cancel (a := x) h2
  have : x / qM M * (qM M * ((M : Int) : Rat)) = x * ((M : Int) : Rat) := by rw [← Rat.mul_assoc, h3]
  rw [h1, Rat.mul_one] at this
  exact this
theorem div_M {M : Nat} (x : Rat) : x / ((M : Int) : Rat) = x * qM M := by
  unfold qM
  rw [Rat.div_def, Rat.div_def, Rat.one_mul]
def wide (lo hi : Rat) (M : Nat) : Rat := (hi - lo) / ((M : Int) : Rat)
def stt (lo hi : Rat) (M i : Nat) : Rat := lo + wide lo hi M * ((i : Int) : Rat)
theorem wide_eq (lo hi : Rat) (M : Nat) : wide lo hi M = (hi - lo) * qM M := div_M _
theorem wide_all {M : Nat} (h : 0 < M) (lo hi : Rat) : wide lo hi M * ((M : Int) : Rat) = hi - lo := by
  rw [wide_eq, Rat.mul_assoc, qM_mul h, Rat.mul_one]
theorem wide_pos {M : Nat} (h : lo < hi) (hM : 0 < M) : 0 < wide lo hi M := by
  rw [wide_eq]
  exact Rat.mul_pos (by grind) (qM_pos hM)
theorem stt_in {M i : Nat} (h : lo < hi) (hM : 0 < M) (hi' : i < M) : lo ≤ stt lo hi M i ∧ stt lo hi M i + wide lo hi M ≤ hi := by
  have w0 := wide_pos h hM
  have wa := wide_all hM lo hi
  unfold stt
  have i0 : 0 ≤ wide lo hi M * ((i : Int) : Rat) := Rat.mul_nonneg (Rat.le_of_lt w0) (Rat.intCast_le_intCast.mpr (by omega : (0 : Int) ≤ (i : Int)))
  have i1 : 0 ≤ wide lo hi M * (((M : Int) : Rat) - (((i : Int) : Rat) + 1)) := by
    refine Rat.mul_nonneg (Rat.le_of_lt w0) ?_
    have : (((i : Int) + 1 : Int) : Rat) ≤ ((M : Int) : Rat) := Rat.intCast_le_intCast.mpr (by omega)
    rw [Rat.intCast_add] at this
    have e : ((1 : Int) : Rat) = 1 := rfl
    rw [e] at this
    grind
  constructor
  · grind
  · grind
def pW (lo hi : Rat) (M : Nat) (ws : List Wt) (i : Nat) : List Wt := ldW lo (stt lo hi M i) (qM M) ws
def pS (lo hi : Rat) (M : Nat) (ss : List Sh) (i : Nat) : List Sh := ldS lo (stt lo hi M i) (qM M) ss
def gW (lo hi : Rat) (M : Nat) (ws : List Wt) : Nat → List Wt
  | 0 => []
  | j + 1 => gW lo hi M ws j ++ pW lo hi M ws j
def gS (lo hi : Rat) (M : Nat) (ss : List Sh) : Nat → List Sh
  | 0 => []
  | j + 1 => gS lo hi M ss j ++ pS lo hi M ss j
def fW (lo hi : Rat) (M : Nat) (ws : List Wt) : List Wt := scW (qM M) (gW lo hi M ws M)
def fS (lo hi : Rat) (M : Nat) (ss : List Sh) : List Sh := scS (qM M) (gS lo hi M ss M)
theorem WE.g {a b : List Wt} (h : WE a b) (lo hi : Rat) (M : Nat) : ∀ j : Nat, WE (gW lo hi M a j) (gW lo hi M b j)
  | 0 => WE.refl _
  | j + 1 => (WE.g h lo hi M j).app (h.ld _ _ _)
theorem SE.g {a b : List Sh} (h : SE a b) (lo hi : Rat) (M : Nat) : ∀ j : Nat, SE (gS lo hi M a j) (gS lo hi M b j)
  | 0 => SE.refl _
  | j + 1 => (SE.g h lo hi M j).app (h.ld _ _ _)
theorem WE.f {a b : List Wt} (h : WE a b) (lo hi : Rat) (M : Nat) : WE (fW lo hi M a) (fW lo hi M b) := (h.g lo hi M M).sc _
theorem SE.f {a b : List Sh} (h : SE a b) (lo hi : Rat) (M : Nat) : SE (fS lo hi M a) (fS lo hi M b) := (h.g lo hi M M).sc _
theorem dvd60 {M : Nat} (h : 0 < M) (h6 : M ≤ 6) : (M : Int) ∣ ((60 : Nat) : Int) := by
  have : M = 1 ∨ M = 2 ∨ M = 3 ∨ M = 4 ∨ M = 5 ∨ M = 6 := by omega
  rcases this with rfl | rfl | rfl | rfl | rfl | rfl <;> decide
theorem Dv.intm {D B : Nat} {q : Rat} (h : Dv D B q) (i : Nat) {I : Nat} (hi : i ≤ I) : Dv D (B * I) (q * ((i : Int) : Rat)) := by
  have : Dv 1 I ((i : Int) : Rat) := ⟨by decide, i, by rw [show (((1 : Nat) : Int) : Rat) = 1 from rfl, Rat.mul_one], by omega⟩
  have := h.mul this
  rwa [Nat.mul_one] at this
theorem Rw.pt (r : Rw lo hi ws ss DP BP DW BW n m) {M i : Nat} (hM : 0 < M) (h6 : M ≤ 6) (hi' : i < M) {p : Rat} (hp : Dv DP BP p) : Dv (DP * 60) (BP * 900) (lpt lo (stt lo hi M i) (qM M) p) := by
  have e : lpt lo (stt lo hi M i) (qM M) p = lo + ((hi - lo) * ((i : Int) : Rat) + (p - lo)) / ((M : Int) : Rat) := by
    unfold lpt stt
    rw [wide_eq, div_M]
    grind
  have a := ((((r.h.sub r.l).intm i (I := 6) (by omega)).add (hp.sub r.l)).part (M := 60) (by decide) (m := (M : Int)) (by omega) (dvd60 hM h6))
  have b := r.l.scale (m := 60) (by decide)
  rw [e]
  refine (b.add a).up ?_
  omega
theorem Rw.p (r : Rw lo hi ws ss DP BP DW BW n m) {M i : Nat} (hM : 0 < M) (h6 : M ≤ 6) (hi' : i < M) : Rw lo hi (pW lo hi M ws i) (pS lo hi M ss i) (DP * 60) (BP * 900) DW (BW * 6) n m := by
  have q0 := qM_pos hM
  obtain ⟨s1, s2⟩ := stt_in r.lt hM hi'
  have elo : lpt lo (stt lo hi M i) (qM M) lo = stt lo hi M i := by unfold lpt; grind
  have ehi : lpt lo (stt lo hi M i) (qM M) hi = stt lo hi M i + wide lo hi M := by unfold lpt; rw [wide_eq]
  have inn : ∀ p, lo ≤ p → p ≤ hi → lo ≤ lpt lo (stt lo hi M i) (qM M) p ∧ lpt lo (stt lo hi M i) (qM M) p ≤ hi := fun p h1 h2 => by
    have a := lpt_le (lo := lo) (fi := stt lo hi M i) q0 h1
    have b := lpt_le (lo := lo) (fi := stt lo hi M i) q0 h2
    rw [elo] at a
    rw [ehi] at b
    constructor <;> grind
  refine ⟨r.lt, (r.l.scale (m := 60) (by decide)).up (by omega), (r.h.scale (m := 60) (by decide)).up (by omega), fun w hw => ?_, fun s hs => ?_, by unfold pW ldW; rw [List.length_map]; exact r.wl, by unfold pS ldS; rw [List.length_map]; exact r.sl, r.dw⟩
  · obtain ⟨v, hv, rfl⟩ := List.mem_map.mp hw
    obtain ⟨a, b, c, d⟩ := r.w v hv
    exact ⟨r.pt hM h6 hi' a, b.up (by omega), inn _ c d⟩
  · obtain ⟨v, hv, rfl⟩ := List.mem_map.mp hs
    obtain ⟨a, b, c, d, e, f⟩ := r.s v hv
    refine ⟨r.pt hM h6 hi' a, r.pt hM h6 hi' b, ?_, (inn _ d (by grind)).1, lpt_lt q0 e, (inn _ (by grind) f).2⟩
    show Dv DW (BW * 6) (v.2.2 / qM M)
    rw [div_qM hM]
    exact c.intm M h6
theorem Rw.g (r : Rw lo hi ws ss DP BP DW BW n m) {M : Nat} (hM : 0 < M) (h6 : M ≤ 6) : ∀ j : Nat, j ≤ M → Rw lo hi (gW lo hi M ws j) (gS lo hi M ss j) (DP * 60) (BP * 900) DW (BW * 6) (n * j) (m * j)
  | 0, _ => Rw.nil r.lt ((r.l.scale (m := 60) (by decide)).up (by omega)) ((r.h.scale (m := 60) (by decide)).up (by omega)) r.dw
  | j + 1, h => (r.g hM h6 j (by omega)).app (r.p hM h6 (by omega))
theorem Dv.q {M : Nat} (hM : 0 < M) (h6 : M ≤ 6) : Dv 60 60 (qM M) := by
  have := Dv.one.part (M := 60) (by decide) (m := (M : Int)) (by omega) (dvd60 hM h6)
  exact this
theorem Rw.f (r : Rw lo hi ws ss DP BP DW BW n m) {M : Nat} (hM : 0 < M) (h6 : M ≤ 6) : Rw lo hi (fW lo hi M ws) (fS lo hi M ss) (DP * 60) (BP * 900) (DW * 60) (BW * 6 * 60) (n * M) (m * M) := (r.g hM h6 M (Nat.le_refl _)).sc (Dv.q hM h6)
end
end Bk
namespace Bk
open PySem L2
theorem v_is_sequence {d : D} {ds : List D} (h : isSq d ds) : r_is_sequence [d] = some (.im (.bl true)) := by
  rcases h with rfl | rfl | rfl <;> rfl
theorem v_is_less {a b : Rat} {k l : Nat} (ha : Ht a k) (hb : Ht b l) (h9 : k + l < 8990) : r_is_less [vq a, vq b] = some (.im (.bl (decide (a < b)))) := by
  have e : decide (a < b) = decide (a.num * b.den < b.num * a.den) := decide_eq_decide.mpr (Rat.lt_iff a b)
  rw [e]
  exact runF_st rfl (st_ret (xo2 (xo2 rfl rfl (if_pos (ha.1.okMul hb.2 (by omega)))) (xo2 rfl rfl (if_pos (hb.1.okMul ha.2 (by omega)))) rfl))
theorem v_is_integer_q (q : Rat) : r_is_integer [vq q] = some (.im (.bl false)) := by rfl
theorem v_divisor (a b : Int) : r_divisor [.int a, .int b] = some (.im (.int (Nat.gcd a.natAbs b.natAbs : Nat))) := by
  have key := div_loop (xtest (xop opNe (xv 1) (xc (.int 0)))) b_divisor_1 (fun x y => rfl) (fun x y hy => by
    have h0 : decide ((y : Int) ≠ 0) = true := decide_eq_true (by omega)
    have e : xop opMod (xv 0) (xv 1) [.im (.int x), .im (.int y)] = some (.im (.int ((x : Int).fmod y)), [.im (.int x), .im (.int y)]) := xo2 rfl rfl (if_pos h0)
    rw [fmod_nat] at e
    have e2 : ycons (xv 1) (ycons (xop opMod (xv 0) (xv 1)) ynil) [.im (.int x), .im (.int y)] = some ([.im (.int y), .im (.int ((x % y : Nat) : Int))], [.im (.int x), .im (.int y)]) := ycons_ok rfl (ycons_ok e rfl)
    exact ypar_ok e2) (b.natAbs + 1) a.natAbs b.natAbs (Nat.lt_succ_self _)
  have e1 : ypar 0 1 (ycons (xcb cbAbs (xcons (xv 0) xnil)) (ycons (xcb cbAbs (xcons (xv 1) xnil)) ynil)) [.im (.int a), .im (.int b)] = some (.nx, [.im (.int a.natAbs), .im (.int b.natAbs)]) := by
    rw [← abs_nat a, ← abs_nat b]
    rfl
  refine runF_st rfl ?_
  unfold b_divisor
  refine st_nx (by exact e1) ?_
  refine st_nx (by exact key) ?_
  exact st_ret rfl
theorem v_is_pair (q : Rat) : r_is_pair [vq q] = some (.im (.bl true)) := by
  have h1 : decide ((0 : Int) < (q.den : Int)) = true := decide_eq_true (by have := q.den_pos; omega)
  have h2 : Nat.gcd q.num.natAbs ((q.den : Int)).natAbs = 1 := by
    rw [Int.natAbs_natCast]; exact q.reduced
  refine runF_st rfl ?_
  unfold b_is_pair
  refine st_nx (G1 := [.im (vq q), .un]) (by rfl) ?_
  refine st_ret (by exact xvand_t (G1 := [.im (vq q), .un]) (by rw [← h1]; rfl) (xo2 (xcall_ok (xc1 (xo2 (x := vq q) (y := .int 0) rfl rfl rfl) (xc1 (xo2 (x := vq q) (y := .int 1) rfl rfl rfl) xnil_ok)) (v_divisor _ _)) rfl (by rw [h2]; rfl)))
theorem v_is_value {d : D} {q : Rat} (h : IsV d q) : r_is_value [d] = some (.im (.bl true)) := by
  rcases h with ⟨i, rfl, rfl⟩ | rfl
  · rfl
  · refine runF_st rfl (st_ret (G1 := [.im (vq q)]) ?_)
    exact (xvor_f (by exact xcall_ok (xc1 rfl xnil_ok) (v_is_integer_q q))).trans (xcall_ok (xc1 rfl xnil_ok) (v_is_pair q))
theorem v_value_of {d : D} {q : Rat} (h : IsV d q) : r_value_of [d] = some (.im (vq q)) := by
  rcases h with ⟨i, rfl, rfl⟩ | rfl
  · rfl
  · rfl
theorem v_is_between {d : D} {q lo hi : Rat} {k l m : Nat} (h : IsV d q) (hq : Ht q k) (h1 : Ht lo l) (h2 : Ht hi m) (h9 : k + l < 8990) (h8 : k + m < 8990) : r_is_between [d, vq lo, vq hi] = some (.im (.bl (!decide (q < lo) && !decide (hi < q)))) := by
  refine runF_st rfl (st_ret (G1 := [.im d, .im (vq lo), .im (vq hi)]) ?_)
  refine xvand_t (G1 := [.im d, .im (vq lo), .im (vq hi)]) (by exact xcall_ok (xc1 rfl xnil_ok) (v_is_value h)) ?_
  exact xvand_b (by exact xvnot_ok (xcall_ok (xc1 (xcall_ok (xc1 rfl xnil_ok) (v_value_of h)) (xc1 rfl xnil_ok)) (v_is_less hq h1 (by omega)))) (by exact xvnot_ok (xcall_ok (xc1 rfl (xc1 (xcall_ok (xc1 rfl xnil_ok) (v_value_of h)) xnil_ok)) (v_is_less h2 hq (by omega))))
theorem v_is_share {d e f : D} {a b s lo hi : Rat} {k l : Nat} (h : IsV d a) (h' : IsV e b) (h'' : IsV f s) (ha : Ht a k) (hb : Ht b k) (h1 : Ht lo l) (h2 : Ht hi l) (h9 : k + l < 8990) (h8 : k + k < 8990)
    (g1 : lo ≤ a) (g2 : a < b) (g3 : b ≤ hi) : r_is_share [.tup [d, e, f], vq lo, vq hi] = some (.im (.bl true)) := by
  have t1 : decide (a < lo) = false := decide_eq_false (Rat.not_lt.mpr g1)
  have t2 : decide (hi < a) = false := decide_eq_false (Rat.not_lt.mpr (by grind))
  have t3 : decide (b < lo) = false := decide_eq_false (Rat.not_lt.mpr (Rat.le_trans g1 (Rat.le_of_lt g2)))
  have t4 : decide (hi < b) = false := decide_eq_false (Rat.not_lt.mpr g3)
  have p1 : r_is_between [d, vq lo, vq hi] = some (.im (.bl true)) := by rw [v_is_between h ha h1 h2 h9 h9, t1, t2]; rfl
  have p2 : r_is_between [e, vq lo, vq hi] = some (.im (.bl true)) := by rw [v_is_between h' hb h1 h2 h9 h9, t3, t4]; rfl
  refine runF_st rfl ?_
  refine st_nx (G1 := [.im (.tup [d, e, f]), .im (vq lo), .im (vq hi)]) ?_ (st_nx (G1 := [.im (.tup [d, e, f]), .im (vq lo), .im (vq hi)]) ?_ (st_ret (by exact (xcall_ok (xc1 (xcall_ok (xc1 (d := d) (by rfl) xnil_ok) (v_value_of h)) (xc1 (xcall_ok (xc1 (d := e) (by rfl) xnil_ok) (v_value_of h')) xnil_ok)) ((v_is_less ha hb h8).trans (by rw [decide_eq_true g2]))))))
  · refine (xifs_ok (k := false) ?_).trans rfl
    exact xtor_b (k := false) (l := false) (by rfl) (xtor_b (k := false) (l := false) (by rfl) (by exact xtnot_ok (k := true) (xtrub (xcall_ok (xc1 (d := f) (by rfl) xnil_ok) (v_is_value h'')))))
  · refine (xifs_ok (k := false) ?_).trans rfl
    exact xtor_b (k := false) (l := false) (by exact xtnot_ok (k := true) (xtrub (xcall_ok (xc1 (d := d) (by rfl) (xc1 rfl (xc1 rfl xnil_ok))) p1))) (by exact xtnot_ok (k := true) (xtrub (xcall_ok (xc1 (d := e) (by rfl) (xc1 rfl (xc1 rfl xnil_ok))) p2)))
theorem v_is_weight {d e : D} {a w lo hi : Rat} {k l : Nat} (h : IsV d a) (h' : IsV e w) (ha : Ht a k) (h1 : Ht lo l) (h2 : Ht hi l) (h9 : k + l < 8990)
    (g1 : lo ≤ a) (g3 : a ≤ hi) : r_is_weight [.tup [d, e], vq lo, vq hi] = some (.im (.bl true)) := by
  have t1 : decide (a < lo) = false := decide_eq_false (Rat.not_lt.mpr g1)
  have t2 : decide (hi < a) = false := decide_eq_false (Rat.not_lt.mpr g3)
  have p1 : r_is_between [d, vq lo, vq hi] = some (.im (.bl true)) := by rw [v_is_between h ha h1 h2 h9 h9, t1, t2]; rfl
  refine runF_st rfl ?_
  refine st_nx (G1 := [.im (.tup [d, e]), .im (vq lo), .im (vq hi)]) ?_ (st_ret (G1 := [.im (.tup [d, e]), .im (vq lo), .im (vq hi)]) (by exact xvand_b (k := true) (l := true) (by exact xcall_ok (xc1 (d := d) (by rfl) (xc1 rfl (xc1 rfl xnil_ok))) p1) (by exact xcall_ok (xc1 (d := e) (by rfl) xnil_ok) (v_is_value h'))))
  refine (xifs_ok (k := false) ?_).trans rfl
  exact xtor_b (k := false) (l := false) (by rfl) (by rfl)
theorem asc_loop {x0 : Ent} {k : Nat} : ∀ (l : List Rat) (c m : Nat) (e2 e3 : Ent), 0 < c → Sm (c : Int) m → (∀ q ∈ l, Ht q k) → m + l.length * k + k < 8990 →
    ∃ e2' e3', xforL (tgt [tgn 2, tgn 3]) b_ascending_1 (l.map vq) [x0, .im (.int c), e2, e3, .un, .un, .un, .un] = some (.nx, [x0, .im (.int (lcs l c : Nat)), e2', e3', .un, .un, .un, .un])
  | [], c, m, e2, e3, _, _, _, _ => ⟨e2, e3, rfl⟩
  | q :: l, c, m, e2, e3, h0, hc, hl, h9 => by
    have hq := (hl q List.mem_cons_self).2
    have el : (q :: l).length * k = l.length * k + k := by rw [List.length_cons, Nat.add_mul]; omega
    rw [el] at h9
    have h1 : Sm ((Nat.lcm c q.den : Nat) : Int) (m + k) := lcs_sm (l := [q]) (k := k) hc (fun r hr => hl r (by rw [List.mem_singleton.mp hr]; exact List.mem_cons_self)) |> fun z => by simpa [lcs] using z
    obtain ⟨e2', e3', ih⟩ := asc_loop (x0 := x0) l (Nat.lcm c q.den) (m + k) (.im (.int q.num)) (.im (.int q.den)) (Nat.lcm_pos h0 q.den_pos) h1 (fun r hr => hl r (List.mem_cons_of_mem _ hr)) (by omega)
    refine ⟨e2', e3', ?_⟩
    have g0 : 0 < Nat.gcd c q.den := Nat.gcd_pos_of_pos_left _ h0
    have gs : Sm ((Nat.gcd c q.den : Nat) : Int) k := by
      have : Nat.gcd c q.den ≤ q.den := Nat.gcd_le_right _ q.den_pos
      unfold Sm at *
      omega
    have e : ((c : Int) * (q.den : Int)).fdiv ((Nat.gcd (c : Int).natAbs (q.den : Int).natAbs : Nat) : Int) = ((Nat.lcm c q.den : Nat) : Int) := by
      rw [Int.natAbs_natCast, Int.natAbs_natCast, Int.fdiv_eq_ediv_of_nonneg _ (by omega)]
      rfl
    refine (xforL_nx (G1 := [x0, .im (.int c), .im (.int q.num), .im (.int q.den), .un, .un, .un, .un]) rfl ?_).trans ih
    unfold b_ascending_1
    refine xset_e (xo2 (xo2 rfl rfl (o_mul (hc.okMul hq (by omega)))) (by exact xcall_ok (xc1 rfl (xc1 rfl xnil_ok)) (v_divisor _ _)) (o_div ?_)) ?_
    · rw [Int.natAbs_natCast, Int.natAbs_natCast]
      exact gs.okDiv (by omega) (by omega)
    · rw [e]; rfl
theorem asc_dd {x0 x1 x2 x3 : Ent} {c : Nat} {s : List Rat} : ∀ (suf pre : List Rat), s = pre ++ suf →
    xlcL (tgt [(tgn 6), (tgt [(tgn 7), (tgn 5)])]) (xtor (xtest (xop opEq (xv 6) (xc (.int 0)))) (xtest (xop opNe (xop opIx (xop opIx (xv 4) (xop opSub (xv 6) (xc (.int 1)))) (xc (.int 1))) (xv 5)))) (xv 5) [6, 7, 5]
      (enumD pre.length (suf.map (kit c))) [x0, x1, x2, x3, .im (.lst (s.map (kit c))), .un, .un, .un] = some ((dd pre.getLast? suf).map vq, [x0, x1, x2, x3, .im (.lst (s.map (kit c))), .un, .un, .un])
  | [], pre, _ => by rfl
  | q :: suf, pre, h => by
    have ih := asc_dd (s := s) (x0 := x0) (x1 := x1) (x2 := x2) (x3 := x3) (c := c) suf (pre ++ [q]) (by rw [h, List.append_assoc]; rfl)
    rw [List.length_append, List.length_singleton, List.getLast?_append] at ih
    show xlcL _ _ _ _ (.tup [.int (pre.length : Int), kit c q] :: enumD (pre.length + 1) (suf.map (kit c))) _ = _
    unfold xlcL
    rw [show tgt [(tgn 6), (tgt [(tgn 7), (tgn 5)])] (.tup [.int (pre.length : Int), kit c q]) [x0, x1, x2, x3, .im (.lst (s.map (kit c))), .un, .un, .un] = some [x0, x1, x2, x3, .im (.lst (s.map (kit c))), .im (vq q), .im (.int pre.length), .im (.int (kyq c q))] from rfl]
    have t1 : xtest (xop opEq (xv 6) (xc (.int 0))) [x0, x1, x2, x3, .im (.lst (s.map (kit c))), .im (vq q), .im (.int pre.length), .im (.int (kyq c q))] = some (decide ((pre.length : Int) = 0), [x0, x1, x2, x3, .im (.lst (s.map (kit c))), .im (vq q), .im (.int pre.length), .im (.int (kyq c q))]) := rfl
    have e2 : xv 5 [x0, x1, x2, x3, .im (.lst (s.map (kit c))), .im (vq q), .im (.int pre.length), .im (.int (kyq c q))] = some (.im (vq q), [x0, x1, x2, x3, .im (.lst (s.map (kit c))), .im (vq q), .im (.int pre.length), .im (.int (kyq c q))]) := rfl
    have w1 : wipeG [x0, x1, x2, x3, .im (.lst (s.map (kit c))), .im (vq q), .im (.int pre.length), .im (.int (kyq c q))] [6, 7, 5] = [x0, x1, x2, x3, .im (.lst (s.map (kit c))), .un, .un, .un] := rfl
    have key : xtor (xtest (xop opEq (xv 6) (xc (.int 0)))) (xtest (xop opNe (xop opIx (xop opIx (xv 4) (xop opSub (xv 6) (xc (.int 1)))) (xc (.int 1))) (xv 5))) [x0, x1, x2, x3, .im (.lst (s.map (kit c))), .im (vq q), .im (.int pre.length), .im (.int (kyq c q))] =
        some (!decide (pre.getLast? = some q), [x0, x1, x2, x3, .im (.lst (s.map (kit c))), .im (vq q), .im (.int pre.length), .im (.int (kyq c q))]) := by
      rcases List.eq_nil_or_concat pre with rfl | ⟨p', y, rfl⟩
      · rfl
      · rw [List.concat_eq_append] at *
        have hl : ((p' ++ [y]).length : Int) ≠ 0 := by rw [List.length_append, List.length_singleton]; omega
        rw [decide_eq_false hl] at t1
        refine (xtor_f t1).trans ?_
        have ea : atI (s.map (kit c)) (((p' ++ [y]).length : Int) - 1) = some (kit c y) := by
          have e0 : ((p' ++ [y]).length : Int) - 1 = (p'.length : Int) := by rw [List.length_append, List.length_singleton]; omega
          rw [e0, h]
          rw [atI_nat _ _ (by simp)]
          simp
        have e3 : xop opIx (xop opIx (xv 4) (xop opSub (xv 6) (xc (.int 1)))) (xc (.int 1)) [x0, x1, x2, x3, .im (.lst (s.map (kit c))), .im (vq q), .im (.int (p' ++ [y]).length), .im (.int (kyq c q))] = some (.im (vq y), [x0, x1, x2, x3, .im (.lst (s.map (kit c))), .im (vq q), .im (.int (p' ++ [y]).length), .im (.int (kyq c q))]) := by
          refine xo2 (x := kit c y) (y := .int 1) ?_ rfl rfl
          refine xop_ok (x := .im (.lst (s.map (kit c)))) (y := .im (.int (((p' ++ [y]).length : Int) - 1))) (G1 := [x0, x1, x2, x3, .im (.lst (s.map (kit c))), .im (vq q), .im (.int (p' ++ [y]).length), .im (.int (kyq c q))]) rfl (by rfl) ?_
          show (atI (s.map (kit c)) (((p' ++ [y]).length : Int) - 1)).map R.im = _
          rw [ea]
          rfl
        refine xtest_ok (xo2 e3 rfl ?_)
        rw [ne_vq]
        simp
    simp only [key, bd_some]
    by_cases hq : pre.getLast? = some q
    · rw [decide_eq_true hq]
      simp only [Bool.not_true, Bool.false_eq_true, if_false, w1]
      unfold dd
      rw [if_pos hq]
      exact ih
    · rw [decide_eq_false hq]
      simp only [Bool.not_false, if_true, e2, bd_some, w1]
      unfold dd
      rw [if_neg hq]
      rw [show (List.getLast? [q]).or pre.getLast? = some q from rfl] at ih
      rw [ih]
      rfl
theorem v_ascending {d : D} {qs : List Rat} {k : Nat} (hd : seqD d = some (qs.map vq)) (hq : ∀ q ∈ qs, Ht q k) (h9 : 2 + qs.length * k + k + k < 8990) (hf : qs.length ≤ 100000) : r_ascending [d] = some (.ol ((asc qs).map vq)) := by
  obtain ⟨e2, e3, h1⟩ := asc_loop (x0 := .im d) qs 1 1 .un .un (by decide) (by unfold Sm; decide) hq (by omega)
  have hcp : 0 < lcs qs 1 := lcs_pos (by decide)
  have hcd := (lcs_dvd (l := qs) (c := 1)).2
  have hcs : Sm (lcs qs 1 : Int) (1 + qs.length * k) := lcs_sm (by unfold Sm; decide) hq
  generalize lcs qs 1 = c at h1 hcp hcd hcs
  have h2 : xlc (xseqI (xv 0)) (tgn 5) xtyes (xtup (xcons (xop opMul (xop opIx (xv 5) (xc (.int 0))) (xop opFdiv (xv 1) (xop opIx (xv 5) (xc (.int 1))))) (xcons (xv 5) xnil))) [5]
      [.im d, .im (.int c), e2, e3, .un, .un, .un, .un] = some (.ol (qs.map (kit c)), [.im d, .im (.int c), e2, e3, .un, .un, .un, .un]) := by
    refine xlc_un (xseqI_ok rfl hd) rfl rfl rfl (xlcL_en (kit c) fun q hm => ?_) (by rw [List.length_map]; exact hf)
    have hk := hq q hm
    have sd : Sm ((c : Int).fdiv (q.den : Int)) (1 + qs.length * k) := by
      rw [Int.fdiv_eq_ediv_of_nonneg _ (by omega), ← Int.natCast_ediv]
      have : c / q.den ≤ c := Nat.div_le_self _ _
      unfold Sm at *
      rw [Int.natAbs_natCast] at *
      omega
    refine ⟨_, _, _, rfl, by exact xtup_ok (xc1 (xo2 (xo2 (x := vq q) (y := .int 0) rfl rfl rfl) (xo2 rfl (xo2 (x := vq q) (y := .int 1) rfl rfl rfl) (o_div (hk.2.okDiv (den_ne q) (by omega)))) (o_mul (hk.1.okMul sd (by omega)))) (xc1 rfl xnil_ok)) rfl, rfl, rfl⟩
  have h3 := asc_dd (x0 := .im d) (x1 := .im (.int c)) (x2 := e2) (x3 := e3) (c := c) (s := sortK (kyq c) qs) (sortK (kyq c) qs) [] rfl
  rw [show dd (List.getLast? []) (sortK (kyq c) qs) = asc qs from sortK_asc hcp hcd] at h3
  refine runF_st rfl ?_
  refine st_nx (G1 := [.im d, .im (.int 1), .un, .un, .un, .un, .un, .un]) (by rfl) ?_
  refine st_nx (by exact xfor_ok (xseqI_ok rfl hd) h1) ?_
  refine st_nx (G1 := [.im d, .im (.int c), e2, e3, .ol ((sortK (kyq c) qs).map (kit c)), .un, .un, .un]) (by exact xset_e (xcb_ok (xcons_ok h2 xnil_ok) (sorted_kit hcp hcd rfl)) rfl) ?_
  have hle := asc_len qs
  exact st_ret (by exact xlc_un (ds := enumD 0 ((sortK (kyq c) qs).map (kit c))) (by rfl) rfl rfl rfl h3 (by rw [List.length_map]; omega))
theorem v_lowest {a b : Int} {k : Nat} (hb : b ≠ 0) (hk : Sm b k) (h9 : k < 9000) : r_lowest [.int a, .int b] = some (.im (vq (Rat.divInt a b))) := by
  have e3 : xif (xtest (xop opLt (xv 1) (xc (.int 0)))) (xun unNeg (xv 2)) (xv 2) [.im (.int a), .im (.int b), .im (.int (Nat.gcd a.natAbs b.natAbs : Nat))] =
      some (.im (.int (if b < 0 then -((Nat.gcd a.natAbs b.natAbs : Nat) : Int) else ((Nat.gcd a.natAbs b.natAbs : Nat) : Int))), [.im (.int a), .im (.int b), .im (.int (Nat.gcd a.natAbs b.natAbs : Nat))]) := by
    unfold xif
    rw [show xtest (xop opLt (xv 1) (xc (.int 0))) [.im (.int a), .im (.int b), .im (.int (Nat.gcd a.natAbs b.natAbs : Nat))] = some (decide (b < 0), [.im (.int a), .im (.int b), .im (.int (Nat.gcd a.natAbs b.natAbs : Nat))]) from rfl]
    simp only [bd_some]
    by_cases h : b < 0
    · rw [if_pos h, decide_eq_true h]; rfl
    · rw [if_neg h, decide_eq_false h]; rfl
  generalize hg : (if b < 0 then -((Nat.gcd a.natAbs b.natAbs : Nat) : Int) else ((Nat.gcd a.natAbs b.natAbs : Nat) : Int)) = g at e3
  have g0 : Nat.gcd a.natAbs b.natAbs ≠ 0 := by
    intro z
    have := Nat.eq_zero_of_gcd_eq_zero_right z
    omega
  have gle : Nat.gcd a.natAbs b.natAbs ≤ b.natAbs := Nat.gcd_le_right _ (by omega)
  have gs : Sm g k := by
    unfold Sm at *
    rw [← hg]
    split <;> omega
  have gn : g ≠ 0 := by rw [← hg]; split <;> omega
  have ok := gs.okDiv gn h9
  have n1 := low_num (n := a) hb
  have n2 := low_den (n := a) hb
  rw [hg] at n1 n2
  rw [vq, ← n1, ← n2]
  refine runF_st rfl ?_
  unfold b_lowest
  refine st_nx (by exact xset_ok (xcall_ok (xc1 rfl (xc1 rfl xnil_ok)) (v_divisor a b))) ?_
  refine st_nx (by exact xset_ok e3) ?_
  exact st_ret (xtup_ok (xc1 (xo2 rfl rfl (if_pos ok)) (xc1 (xo2 rfl rfl (if_pos ok)) xnil_ok)) rfl)
theorem v_added {a b : Rat} {k l : Nat} (ha : Ht a k) (hb : Ht b l) (h9 : k + l < 8990) : r_added [vq a, vq b] = some (.im (vq (a + b))) := by
  rw [← add_divInt]
  exact runF_st rfl (st_ret (xcall_ok (xc1 (xo2 (xo2 rfl rfl (if_pos (ha.1.okMul hb.2 (by omega)))) (xo2 rfl rfl (if_pos (hb.1.okMul ha.2 (by omega)))) rfl) (xc1 (xo2 rfl rfl (if_pos (ha.2.okMul hb.2 (by omega)))) xnil_ok)) (v_lowest (Int.mul_ne_zero (den_ne a) (den_ne b)) (ha.2.mul hb.2) (by omega))))
theorem v_summed {d : D} {qs : List Rat} {k : Nat} (hd : seqD d = some (qs.map vq)) (hq : ∀ q ∈ qs, Ht q k) (h9 : 1 + qs.length * (k + 1) + k < 8990) : r_summed [d] = some (.im (vq (sumQ qs))) := by
  obtain ⟨e', h1⟩ := sum_loop (m := r_added) (fun a b k l ha hb h => v_added ha hb h) (x0 := .im d) qs 0 1 .un ht0 hq h9
  refine runF_st rfl ?_
  refine st_nx (G1 := [.im d, .im (vq 0), .un]) (by rfl) ?_
  refine st_nx (by exact xfor_ok (xseqI_ok rfl hd) h1) ?_
  exact st_ret rfl
theorem ls_loop {x0 x2 : Ent} {ss : List Sh} {k : Nat} (hs : ∀ s ∈ ss, Ht s.1 k ∧ Ht s.2.1 k ∧ Ht s.2.2 k) (h9 : 1 + ss.length * (k + 1) + k + k < 8990) (hf : ss.length ≤ 100000) : ∀ (pts : List Rat) (acc : List Sh) (e4 e5 e6 e7 : Ent), (∀ p ∈ pts, Ht p k) → acc.length + pts.length ≤ 100000 →
    ∃ e4' e5' e6' e7', xforL (tgt [(tgn 4), (tgn 5)]) b_least_shares_1 ((pts.zip pts.tail).map pD) [x0, .im (.lst (ss.map sD)), x2, .ol (acc.map sD), e4, e5, e6, e7, .un, .un, .un, .un, .un] =
      some (.nx, [x0, .im (.lst (ss.map sD)), x2, .ol ((lsGo ss acc pts).map sD), e4', e5', e6', e7', .un, .un, .un, .un, .un])
  | [], acc, e4, e5, e6, e7, _, _ => ⟨e4, e5, e6, e7, rfl⟩
  | [_], acc, e4, e5, e6, e7, _, _ => ⟨e4, e5, e6, e7, rfl⟩
  | lo :: hi :: r, acc, e4, e5, e6, e7, hp, hl => by
    have hlo := hp lo List.mem_cons_self
    have hhi := hp hi (List.mem_cons_of_mem _ List.mem_cons_self)
    have hsl := lsStep_len ss acc lo hi
    obtain ⟨t, ht⟩ : ∃ t, t = sAt ss lo hi := ⟨_, rfl⟩
    obtain ⟨f4, f5, f6, f7, ih⟩ := ls_loop (x0 := x0) (x2 := x2) hs h9 hf (hi :: r) (lsStep ss acc lo hi) (.im (vq lo)) (.im (vq hi)) (.im (.lst ((ss.filter (sIn lo hi)).map fun s => vq s.2.2))) (.im (vq t)) (fun p hm => hp p (List.mem_cons_of_mem _ hm)) (by simp only [List.length_cons] at *; omega)
    refine ⟨f4, f5, f6, f7, ?_⟩
    refine (xforL_nx (G1 := [x0, .im (.lst (ss.map sD)), x2, .ol (acc.map sD), .im (vq lo), .im (vq hi), e6, e7, .un, .un, .un, .un, .un]) rfl ?_).trans ih
    have c1 : xlc (xseqI (xv 1)) (tgt [(tgn 10), (tgn 11), (tgn 8)]) (xtand (xtnot (xtru (xcall r_is_less (xcons (xv 4) (xcons (xv 10) xnil))))) (xtnot (xtru (xcall r_is_less (xcons (xv 11) (xcons (xv 5) xnil)))))) (xv 8) [10, 11, 8]
        [x0, .im (.lst (ss.map sD)), x2, .ol (acc.map sD), .im (vq lo), .im (vq hi), e6, e7, .un, .un, .un, .un, .un] =
        some (.ol ((ss.filter (sIn lo hi)).map fun s => vq s.2.2), [x0, .im (.lst (ss.map sD)), x2, .ol (acc.map sD), .im (vq lo), .im (vq hi), e6, e7, .un, .un, .un, .un, .un]) := by
      refine xlc_un (by rfl) rfl rfl rfl (xlcL_fm (sIn lo hi) (fun s => vq s.2.2) fun s hm => ?_) (by rw [List.length_map]; have := List.length_filter_le (sIn lo hi) ss; omega)
      obtain ⟨h1, h2, h3⟩ := hs s hm
      exact ⟨[x0, .im (.lst (ss.map sD)), x2, .ol (acc.map sD), .im (vq lo), .im (vq hi), e6, e7, .im (vq s.2.2), .un, .im (vq s.1), .im (vq s.2.1), .un], _, rfl,
        xtand_b (xtnot_ok (xtrub (by exact xcall_ok (xc1 rfl (xc1 rfl xnil_ok)) (v_is_less hlo h1 (by omega))))) (xtnot_ok (xtrub (by exact xcall_ok (xc1 rfl (xc1 rfl xnil_ok)) (v_is_less h2 hhi (by omega))))),
        fun _ => rfl, fun _ => ⟨_, _, rfl, rfl, rfl⟩⟩
    have c2 : seqD (.lst ((ss.filter (sIn lo hi)).map fun s => vq s.2.2)) = some (((ss.filter (sIn lo hi)).map (·.2.2)).map vq) := by
      rw [List.map_map]; rfl
    have c3 := v_summed (d := .lst ((ss.filter (sIn lo hi)).map fun s => vq s.2.2)) (k := k) c2 (fun q hq => by
      obtain ⟨w, hm, rfl⟩ := List.mem_map.mp hq
      exact (hs w (List.mem_filter.mp hm).1).2.2) (by
      rw [List.length_map]
      have := Nat.mul_le_mul (List.length_filter_le (sIn lo hi) ss) (Nat.le_refl (k + 1))
      omega)
    rw [show sumQ ((ss.filter (sIn lo hi)).map (·.2.2)) = t from ht.symm] at c3
    have hal : acc.length ≤ 100000 := by simp only [List.length_cons] at hl; omega
    unfold b_least_shares_1
    rw [xseq_nx (show _ = some (Fl.nx, [x0, .im (.lst (ss.map sD)), x2, .ol (acc.map sD), .im (vq lo), .im (vq hi), .ol ((ss.filter (sIn lo hi)).map fun s => vq s.2.2), e7, .un, .un, .un, .un, .un]) from xset_e c1 rfl)]
    rw [xseq_nx (show _ = some (Fl.nx, [x0, .im (.lst (ss.map sD)), x2, .ol (acc.map sD), .im (vq lo), .im (vq hi), .im (.lst ((ss.filter (sIn lo hi)).map fun s => vq s.2.2)), .im (vq t), .un, .un, .un, .un, .un]) from xset_e (xcall_ok (xc1 rfl xnil_ok) c3) rfl)]
    generalize (Ent.im (.lst ((ss.filter (sIn lo hi)).map fun s => vq s.2.2))) = w6
    clear ih c1 c2 c3
    unfold lsStep
    rw [← ht]
    have t0 : xtest (xop opGt (xcb cbLen (xcons (xv 3) xnil)) (xc (.int 0))) [x0, .im (.lst (ss.map sD)), x2, .ol (acc.map sD), .im (vq lo), .im (vq hi), w6, .im (vq t), .un, .un, .un, .un, .un] =
        some (decide ((0 : Int) < ((acc.map sD).length : Int)), [x0, .im (.lst (ss.map sD)), x2, .im (.lst (acc.map sD)), .im (vq lo), .im (vq hi), w6, .im (vq t), .un, .un, .un, .un, .un]) := rfl
    have fin : (if few ((acc.map sD) ++ [sD (lo, hi, t)]).length then some (R.ol ((acc.map sD) ++ [sD (lo, hi, t)]), [x0, .im (.lst (ss.map sD)), x2, .im (.lst (acc.map sD)), .im (vq lo), .im (vq hi), w6, .im (vq t), .un, .un, .un, .un, .un]) else none) = some (R.ol ((acc ++ [(lo, hi, t)]).map sD), [x0, .im (.lst (ss.map sD)), x2, .im (.lst (acc.map sD)), .im (vq lo), .im (vq hi), w6, .im (vq t), .un, .un, .un, .un, .un]) := by
      rw [if_pos (fewl (by simp only [List.length_append, List.length_map, List.length_cons, List.length_nil] at *; omega)), List.map_append]
      rfl
    have add : xset 3 (xlst (xstar (xv 3) (xcons (xtup (xcons (xv 4) (xcons (xv 5) (xcons (xv 7) xnil)))) xnil))) [x0, .im (.lst (ss.map sD)), x2, .im (.lst (acc.map sD)), .im (vq lo), .im (vq hi), w6, .im (vq t), .un, .un, .un, .un, .un] =
        some (.nx, [x0, .im (.lst (ss.map sD)), x2, .ol ((acc ++ [(lo, hi, t)]).map sD), .im (vq lo), .im (vq hi), w6, .im (vq t), .un, .un, .un, .un, .un]) := xset_e fin rfl
    cases hg : acc.getLast? with
    | none =>
      have : acc = [] := List.getLast?_eq_none_iff.mp hg
      subst this
      refine (xifs_ok (k := false) (by exact xtand_f t0)).trans ?_
      exact add
    | some x =>
      have hga : (acc.map sD).getLast? = some (sD x) := by rw [List.getLast?_map, hg]; rfl
      have hpos : (0 : Int) < ((acc.map sD).length : Int) := by
        have : 0 < acc.length := by rw [getLast_split hg]; simp
        rw [List.length_map]; omega
      rw [decide_eq_true hpos] at t0
      have ix : xop opIx (xv 3) (xun unNeg (xc (.int 1))) [x0, .im (.lst (ss.map sD)), x2, .im (.lst (acc.map sD)), .im (vq lo), .im (vq hi), w6, .im (vq t), .un, .un, .un, .un, .un] = some (.im (sD x), [x0, .im (.lst (ss.map sD)), x2, .im (.lst (acc.map sD)), .im (vq lo), .im (vq hi), w6, .im (vq t), .un, .un, .un, .un, .un]) := by
        refine xo2 (x := .lst (acc.map sD)) (y := .int (-1)) rfl rfl ?_
        show (atI (acc.map sD) (-1)).map R.im = _
        rw [atI_last hga]
        rfl
      have t1 : xtest (xop opEq (xop opIx (xop opIx (xv 3) (xun unNeg (xc (.int 1)))) (xc (.int 2))) (xv 7)) [x0, .im (.lst (ss.map sD)), x2, .im (.lst (acc.map sD)), .im (vq lo), .im (vq hi), w6, .im (vq t), .un, .un, .un, .un, .un] =
          some (decide (x.2.2 = t), [x0, .im (.lst (ss.map sD)), x2, .im (.lst (acc.map sD)), .im (vq lo), .im (vq hi), w6, .im (vq t), .un, .un, .un, .un, .un]) := xtest_ok (xo2 (xo2 ix rfl (by rfl)) rfl (eq_vq _ _))
      by_cases e : x.2.2 = t
      · rw [decide_eq_true e] at t1
        simp only [if_pos e]
        refine (xifs_ok (k := true) (by exact (xtand_t t0).trans t1)).trans ?_
        refine xset_e (r := .ol ((acc.dropLast ++ [(x.1, hi, t)]).map sD)) (by
          refine xlst_ok (G1 := [x0, .im (.lst (ss.map sD)), x2, .im (.lst (acc.map sD)), .im (vq lo), .im (vq hi), w6, .im (vq t), .un, .un, .un, .un, .un]) ?_ ?_
          · rw [List.map_append]
            refine xstar_ok (r := .ol (cutD (acc.map sD) none (some (-1)))) (xsl_ok (i := none) (j := some (-1)) (x := .im (.lst (acc.map sD))) rfl rfl (by rfl) (by rfl)) ?_ (xc1 (d := sD (x.1, hi, t)) (by exact xtup_ok (xc1 (xo2 ix rfl (by rfl)) (xc1 rfl (xc1 rfl xnil_ok))) rfl) xnil_ok)
            rw [cut_init, ← List.map_dropLast]
            rfl
          · rw [List.length_map, List.length_append, List.length_dropLast, List.length_singleton]
            exact fewl (by simp only [List.length_cons] at *; omega)) rfl
      · rw [decide_eq_false e] at t1
        simp only [if_neg e]
        refine (xifs_ok (k := false) (by exact (xtand_t t0).trans t1)).trans ?_
        exact add
theorem v_least_shares {d : D} {ps : List (D × Sh)} {k : Nat} (hd : seqD d = some (ps.map (·.1))) (hp : ∀ p ∈ ps, SR p.1 p.2) (hq : ∀ p ∈ ps, Ht p.2.1 k ∧ Ht p.2.2.1 k ∧ Ht p.2.2.2 k)
    (h9 : 2 + ps.length * 2 * (k + 1) + k + k < 8990) : r_least_shares [d] = some (.im (.tup ((lsOf (ps.map (·.2))).map sD))) := by
  have hf : ps.length * 2 ≤ 8990 := by
    have : ps.length * 2 ≤ ps.length * 2 * (k + 1) := Nat.le_mul_of_pos_right _ (by omega)
    omega
  have c1 : xlc (xseqI (xv 0)) (tgt [(tgn 4), (tgn 5), (tgn 8)]) xtyes (xtup (xcons (xcall r_value_of (xcons (xv 4) xnil)) (xcons (xcall r_value_of (xcons (xv 5) xnil)) (xcons (xcall r_value_of (xcons (xv 8) xnil)) xnil)))) [4, 5, 8] [.im d, .un, .un, .un, .un, .un, .un, .un, .un, .un, .un, .un, .un] =
      some (.ol (ps.map fun p => sD p.2), [.im d, .un, .un, .un, .un, .un, .un, .un, .un, .un, .un, .un, .un]) := by
    refine xlc_un (xseqI_ok rfl hd) rfl rfl rfl (xlcL_en (fun p : D × Sh => sD p.2) fun p hm => ?_) (by rw [List.length_map]; omega)
    obtain ⟨⟨w, p⟩, z⟩ : ∃ y : D × Sh, y = p := ⟨p, rfl⟩
    subst z
    obtain ⟨a, b, c, e, ha, hb, hc⟩ := hp _ hm
    have e : w = .tup [a, b, c] := e
    subst e
    exact ⟨[.im d, .un, .un, .un, .im a, .im b, .un, .un, .im c, .un, .un, .un, .un], _, _, rfl, by exact xtup_ok (xc1 (xcall_ok (xc1 rfl xnil_ok) (v_value_of ha)) (xc1 (xcall_ok (xc1 rfl xnil_ok) (v_value_of hb)) (xc1 (xcall_ok (xc1 rfl xnil_ok) (v_value_of hc)) xnil_ok))) rfl, rfl, rfl⟩
  have hw1 : ∀ s ∈ ps.map (·.2), Ht s.1 k ∧ Ht s.2.1 k ∧ Ht s.2.2 k := fun w hw => by
    obtain ⟨p, hm, rfl⟩ := List.mem_map.mp hw
    exact hq p hm
  have hlen : (ps.map (·.2)).length = ps.length := List.length_map _
  rw [show (ps.map fun p => sD p.2) = (ps.map (·.2)).map sD by rw [List.map_map]; rfl] at c1
  rw [← hlen] at h9 hf
  clear hd hp hq hlen
  generalize ps.map (·.2) = ss at c1 hw1 h9 hf
  have hk : ss.length * (k + 1) ≤ ss.length * 2 * (k + 1) := Nat.mul_le_mul (by omega) (Nat.le_refl _)
  have hk2 : ss.length * 2 * k ≤ ss.length * 2 * (k + 1) := Nat.mul_le_mul (Nat.le_refl _) (by omega)
  have c2 : xlc2 (xseqI (xv 1)) (tgt [(tgn 4), (tgn 5), (tgn 8)]) xtyes (xseqI (xtup (xcons (xv 4) (xcons (xv 5) xnil)))) (tgn 9) xtyes (xv 9) [4, 5, 8, 9] [9] [.im d, .ol (ss.map sD), .un, .un, .un, .un, .un, .un, .un, .un, .un, .un, .un] =
      some (.ol ((ends ss).map vq), [.im d, .im (.lst (ss.map sD)), .un, .un, .un, .un, .un, .un, .un, .un, .un, .un, .un]) := by
    refine xlc2_un (by rfl) rfl rfl rfl ((xlc2L_fl (fun s : Sh => [vq s.1, vq s.2.1]) fun s hm => ?_).trans ?_) (by rw [List.length_map, ends_len]; omega)
    · exact ⟨[.im d, .im (.lst (ss.map sD)), .un, .un, .im (vq s.1), .im (vq s.2.1), .un, .un, .im (vq s.2.2), .un, .un, .un, .un], _, _, _, rfl, rfl, by exact xseqI_ok (d := .tup [vq s.1, vq s.2.1]) rfl rfl, rfl, rfl⟩
    · unfold ends
      rw [List.map_flatMap]
      rfl
  have he : ∀ q ∈ ends ss, Ht q k := fun q hq => by
    obtain ⟨s, hm, hq⟩ := List.mem_flatMap.mp hq
    simp at hq
    rcases hq with rfl | rfl
    · exact (hw1 s hm).1
    · exact (hw1 s hm).2.1
  have c3 := v_ascending (d := .lst ((ends ss).map vq)) (qs := ends ss) (k := k) rfl he (by rw [ends_len]; omega) (by rw [ends_len]; omega)
  have hal : (asc (ends ss)).length ≤ 8990 := by
    have := asc_len (ends ss)
    rw [ends_len] at this
    omega
  obtain ⟨e4, e5, e6, e7, c4⟩ := ls_loop (x0 := .im d) (x2 := .im (.lst ((asc (ends ss)).map vq))) hw1 (by omega) (by omega) (asc (ends ss)) [] .un .un .un .un (fun p hm => he p (mem_asc.mp hm)) (by rw [List.length_nil]; omega)
  have c4' : xzipA (xcons (xv 2) (xcons (xsl slB (xv 2) (xpart (xc (.int 1))) xnop) xnil)) [.im d, .im (.lst (ss.map sD)), .ol ((asc (ends ss)).map vq), .ol [], .un, .un, .un, .un, .un, .un, .un, .un, .un] =
      some (((asc (ends ss)).zip (asc (ends ss)).tail).map pD, [.im d, .im (.lst (ss.map sD)), .im (.lst ((asc (ends ss)).map vq)), .ol [], .un, .un, .un, .un, .un, .un, .un, .un, .un]) := by
    refine (xzip_ok (x := .lst ((asc (ends ss)).map vq)) (y := .lst (((asc (ends ss)).map vq).tail)) (by refine xc1 rfl (xcw (xsl_ok (i := some 1) (j := none) (x := .im (.lst ((asc (ends ss)).map vq))) (by rfl) (by rfl) (by rfl) ?_) xnil_ok); rw [← cut_tail]; rfl) rfl rfl).trans ?_
    rw [← List.map_tail, List.zip_map, List.map_map]
    rfl
  have c5 : xlc (xseqI (xv 3)) (tgn 12) (xtest (xop opNe (xop opIx (xv 12) (xc (.int 2))) (xc c_NOUGHT))) (xv 12) [12] [.im d, .im (.lst (ss.map sD)), .im (.lst ((asc (ends ss)).map vq)), .ol ((lsGo ss [] (asc (ends ss))).map sD), e4, e5, e6, e7, .un, .un, .un, .un, .un] =
      some (.ol ((lsOf ss).map sD), [.im d, .im (.lst (ss.map sD)), .im (.lst ((asc (ends ss)).map vq)), .im (.lst ((lsGo ss [] (asc (ends ss))).map sD)), e4, e5, e6, e7, .un, .un, .un, .un, .un]) := by
    refine xlc_un (by rfl) rfl rfl rfl (xlcL_fm (fun s : Sh => !decide (s.2.2 = 0)) sD fun s hm => ?_) ?_
    · exact ⟨_, _, rfl, xtest_ok (xo2 (x := vq s.2.2) (y := vq 0) (xo2 (x := sD s) (y := .int 2) rfl rfl rfl) rfl (ne_vq s.2.2 0)), fun _ => rfl, fun _ => ⟨_, _, rfl, rfl, rfl⟩⟩
    · rw [List.length_map]
      refine Nat.le_trans (List.length_filter_le _ _) ?_
      have := lsGo_len ss (asc (ends ss)) []
      rw [List.length_nil] at this
      omega
  refine runF_st rfl ?_
  refine st_nx (by exact xset_e c1 rfl) ?_
  refine st_nx (by exact xset_e (xcall_ok (xcw c2 xnil_ok) c3) rfl) ?_
  refine st_nx (G1 := [.im d, .im (.lst (ss.map sD)), .ol ((asc (ends ss)).map vq), .ol [], .un, .un, .un, .un, .un, .un, .un, .un, .un]) (by rfl) ?_
  refine st_nx (by exact xfor_ok c4' c4) ?_
  exact st_ret (by exact xcb_ok (xcw c5 xnil_ok) rfl)
theorem lw_loop {x0 : Ent} {ws : List Wt} {k : Nat} (hw : ∀ w ∈ ws, Ht w.2 k) (h9 : 1 + ws.length * (k + 1) + k < 8990) (hf : ws.length ≤ 100000) : ∀ (l : List Rat) (acc : List Wt) (e3 : Ent), acc.length + l.length ≤ 100000 →
    ∃ e3', xforL (tgn 3) b_least_weights_1 (l.map vq) [x0, .im (.lst (ws.map wD)), .ol (acc.map wD), e3, .un, .un, .un] =
      some (.nx, [x0, .im (.lst (ws.map wD)), .ol ((acc ++ l.map fun p => (p, wAt ws p)).map wD), e3', .un, .un, .un])
  | [], acc, e3, _ => ⟨e3, by rw [List.map_nil, List.map_nil, List.append_nil]; rfl⟩
  | p :: l, acc, e3, hl => by
    obtain ⟨e3', ih⟩ := lw_loop (x0 := x0) hw h9 hf l (acc ++ [(p, wAt ws p)]) (.im (vq p)) (by simp at hl ⊢; omega)
    rw [List.append_assoc] at ih
    refine ⟨e3', ?_⟩
    refine (xforL_nx (G1 := [x0, .im (.lst (ws.map wD)), .ol (acc.map wD), .im (vq p), .un, .un, .un]) rfl ?_).trans ih
    have c1 : xlc (xseqI (xv 1)) (tgt [(tgn 5), (tgn 4)]) (xtest (xop opEq (xv 5) (xv 3))) (xv 4) [5, 4] [x0, .im (.lst (ws.map wD)), .ol (acc.map wD), .im (vq p), .un, .un, .un] =
        some (.ol (((ws.filter fun w => decide (w.1 = p))).map (fun w => vq w.2)), [x0, .im (.lst (ws.map wD)), .ol (acc.map wD), .im (vq p), .un, .un, .un]) := by
      refine xlc_un (by rfl) rfl rfl rfl (xlcL_fm (fun w : Wt => decide (w.1 = p)) (fun w => vq w.2) fun w hm => ?_) (by rw [List.length_map]; have := List.length_filter_le (fun w => decide (w.1 = p)) ws; omega)
      exact ⟨[x0, .im (.lst (ws.map wD)), .ol (acc.map wD), .im (vq p), .im (vq w.2), .im (vq w.1), .un], _, rfl, xtest_ok (xo2 rfl rfl (eq_vq w.1 p)), fun _ => rfl, fun _ => ⟨_, _, rfl, rfl, rfl⟩⟩
    have c2 : seqD (.lst ((ws.filter fun w => decide (w.1 = p)).map (fun w => vq w.2))) = some (((ws.filter fun w => decide (w.1 = p)).map (·.2)).map vq) := by
      rw [List.map_map]; rfl
    have c3 := v_summed (d := .lst ((ws.filter fun w => decide (w.1 = p)).map (fun w => vq w.2))) (k := k) c2 (fun q hq => by
      obtain ⟨w, hm, rfl⟩ := List.mem_map.mp hq
      exact hw w (List.mem_filter.mp hm).1) (by
      rw [List.length_map]
      have := Nat.mul_le_mul (List.length_filter_le (fun w => decide (w.1 = p)) ws) (Nat.le_refl (k + 1))
      omega)
    unfold b_least_weights_1
    refine xapp_ok (bs := acc.map wD) (by rfl) (by exact xtup_ok (xc1 rfl (xc1 (xcall_ok (xcw c1 xnil_ok) c3) xnil_ok)) rfl) rfl rfl (by rw [List.length_map]; omega) ?_
    rw [List.map_append]
    rfl
theorem v_least_weights {d : D} {ps : List (D × Wt)} {k : Nat} (hd : seqD d = some (ps.map (·.1))) (hp : ∀ p ∈ ps, WR p.1 p.2) (hq : ∀ p ∈ ps, Ht p.2.1 k ∧ Ht p.2.2 k)
    (h9 : 2 + ps.length * (k + 1) + k + k < 8990) (hf : ps.length ≤ 100000) : r_least_weights [d] = some (.im (.tup ((lwOf (ps.map (·.2))).map wD))) := by
  have c1 : xlc (xseqI (xv 0)) (tgt [(tgn 3), (tgn 4)]) xtyes (xtup (xcons (xcall r_value_of (xcons (xv 3) xnil)) (xcons (xcall r_value_of (xcons (xv 4) xnil)) xnil))) [3, 4] [.im d, .un, .un, .un, .un, .un, .un] =
      some (.ol (ps.map fun p => wD p.2), [.im d, .un, .un, .un, .un, .un, .un]) := by
    refine xlc_un (xseqI_ok rfl hd) rfl rfl rfl (xlcL_en (fun p : D × Wt => wD p.2) fun p hm => ?_) (by rw [List.length_map]; exact hf)
    obtain ⟨⟨w, p⟩, z⟩ : ∃ y : D × Wt, y = p := ⟨p, rfl⟩
    subst z
    obtain ⟨a, b, e, ha, hb⟩ := hp _ hm
    have e : w = .tup [a, b] := e
    subst e
    exact ⟨[.im d, .un, .un, .im a, .im b, .un, .un], _, _, rfl, by exact xtup_ok (xc1 (xcall_ok (xc1 rfl xnil_ok) (v_value_of ha)) (xc1 (xcall_ok (xc1 rfl xnil_ok) (v_value_of hb)) xnil_ok)) rfl, rfl, rfl⟩
  have hw1 : ∀ w ∈ ps.map (·.2), Ht w.1 k ∧ Ht w.2 k := fun w hw => by
    obtain ⟨p, hm, rfl⟩ := List.mem_map.mp hw
    exact hq p hm
  have hlen : (ps.map (·.2)).length = ps.length := List.length_map _
  rw [show (ps.map fun p => wD p.2) = (ps.map (·.2)).map wD by rw [List.map_map]; rfl] at c1
  rw [← hlen] at h9 hf
  clear hd hp hq hlen
  generalize ps.map (·.2) = ws at c1 hw1 h9 hf
  have hk : ws.length * k ≤ ws.length * (k + 1) := Nat.mul_le_mul (Nat.le_refl _) (by omega)
  have c2 : xlc (xseqI (xv 1)) (tgt [(tgn 3), (tgn 4)]) xtyes (xv 3) [3, 4] [.im d, .ol (ws.map wD), .ol [], .un, .un, .un, .un] = some (.ol (ws.map fun w => vq w.1), [.im d, .im (.lst (ws.map wD)), .ol [], .un, .un, .un, .un]) := by
    refine xlc_un (by rfl) rfl rfl rfl (xlcL_en (fun w : Wt => vq w.1) fun w hm => ?_) (by rw [List.length_map]; exact hf)
    exact ⟨[.im d, .im (.lst (ws.map wD)), .ol [], .im (vq w.1), .im (vq w.2), .un, .un], _, _, rfl, rfl, rfl, rfl⟩
  have c3 := v_ascending (d := .lst (ws.map fun w => vq w.1)) (qs := ws.map (·.1)) (k := k) (by rw [List.map_map]; rfl) (fun q hq => by
    obtain ⟨w, hm, rfl⟩ := List.mem_map.mp hq
    exact (hw1 w hm).1) (by rw [List.length_map]; omega) (by rw [List.length_map]; exact hf)
  have hal : (asc (ws.map (·.1))).length ≤ 100000 := by
    have := asc_len (ws.map (·.1))
    rw [List.length_map] at this
    omega
  obtain ⟨e3', c4⟩ := lw_loop (x0 := .im d) (fun w hm => (hw1 w hm).2) (by omega) hf (asc (ws.map (·.1))) [] .un (by rw [List.length_nil]; omega)
  have c5 : xlc (xseqI (xv 2)) (tgn 6) (xtest (xop opNe (xop opIx (xv 6) (xc (.int 1))) (xc c_NOUGHT))) (xv 6) [6] [.im d, .im (.lst (ws.map wD)), .ol (((asc (ws.map (·.1))).map fun p => (p, wAt ws p)).map wD), e3', .un, .un, .un] =
      some (.ol ((lwOf ws).map wD), [.im d, .im (.lst (ws.map wD)), .im (.lst (((asc (ws.map (·.1))).map fun p => (p, wAt ws p)).map wD)), e3', .un, .un, .un]) := by
    refine xlc_un (by rfl) rfl rfl rfl (xlcL_fm (fun w : Wt => !decide (w.2 = 0)) wD fun w hm => ?_) ?_
    · exact ⟨_, _, rfl, xtest_ok (xo2 (x := vq w.2) (y := vq 0) (xo2 (x := wD w) (y := .int 1) rfl rfl rfl) rfl (ne_vq w.2 0)), fun _ => rfl, fun _ => ⟨_, _, rfl, rfl, rfl⟩⟩
    · rw [List.length_map]
      unfold lwOf
      refine Nat.le_trans (List.length_filter_le _ _) ?_
      rw [List.length_map]
      exact hal
  refine runF_st rfl ?_
  refine st_nx (by exact xset_e c1 rfl) ?_
  refine st_nx (G1 := [.im d, .ol (ws.map wD), .ol [], .un, .un, .un, .un]) (by rfl) ?_
  refine st_nx (by exact xfor_ok (xseqR_ok (xcall_ok (xcw c2 xnil_ok) c3) (by rfl)) c4) ?_
  exact st_ret (by exact xcb_ok (xcw c5 xnil_ok) rfl)
theorem v_need_stretch {d e : D} {lo hi : Rat} {k : Nat} (h : IsV d lo) (h' : IsV e hi) (h1 : Ht lo k) (h2 : Ht hi k) (h9 : k + k < 8990) (hl : lo < hi) : r_need_stretch [d, e] = some (.im (.tup [vq lo, vq hi])) := by
  refine runF_st rfl ?_
  have a1 : xcall r_is_value (xcons (xv 0) xnil) [.im d, .im e] = some (.im (.bl true), [.im d, .im e]) := xcall_ok (xc1 rfl xnil_ok) (v_is_value h)
  have a2 : xcall r_is_value (xcons (xv 1) xnil) [.im d, .im e] = some (.im (.bl true), [.im d, .im e]) := xcall_ok (xc1 rfl xnil_ok) (v_is_value h')
  have b1 : xcall r_value_of (xcons (xv 0) xnil) [.im d, .im e] = some (.im (vq lo), [.im d, .im e]) := xcall_ok (xc1 rfl xnil_ok) (v_value_of h)
  have b2 : xcall r_value_of (xcons (xv 1) xnil) [.im d, .im e] = some (.im (vq hi), [.im d, .im e]) := xcall_ok (xc1 rfl xnil_ok) (v_value_of h')
  have c1 : xcall r_is_less (xcons (xcall r_value_of (xcons (xv 0) xnil)) (xcons (xcall r_value_of (xcons (xv 1) xnil)) xnil)) [.im d, .im e] = some (.im (.bl true), [.im d, .im e]) := xcall_ok (xc1 b1 (xc1 b2 xnil_ok)) ((v_is_less h1 h2 h9).trans (by rw [decide_eq_true hl]))
  refine st_nx (G1 := [.im d, .im e]) ((xifs_ok (k := false) (xtnot_ok (k := true) (xtrub a1))).trans rfl) ?_
  refine st_nx (G1 := [.im d, .im e]) ((xifs_ok (k := false) (xtor_b (k := false) (l := false) (xtnot_ok (k := true) (xtrub a2)) (xtnot_ok (k := true) (xtrub c1)))).trans rfl) ?_
  exact st_ret (xtup_ok (xc1 b1 (xc1 b2 xnil_ok)) rfl)
theorem v_Rule_init {d1 d2 d3 d4 : D} {lo hi : Rat} {ps : List (D × Wt)} {qs : List (D × Sh)} {k : Nat} (h1 : IsV d1 lo) (h2 : IsV d2 hi) (g1 : Ht lo k) (g2 : Ht hi k) (hl : lo < hi)
    (h3 : isSq d3 (ps.map (·.1))) (h4 : isSq d4 (qs.map (·.1))) (hp : ∀ p ∈ ps, WR p.1 p.2) (hq : ∀ p ∈ qs, SR p.1 p.2) (hp1 : ∀ p ∈ ps, Ht p.2.1 k ∧ Ht p.2.2 k) (hq1 : ∀ p ∈ qs, Ht p.2.1 k ∧ Ht p.2.2.1 k ∧ Ht p.2.2.2 k)
    (hp2 : ∀ p ∈ ps, lo ≤ p.2.1 ∧ p.2.1 ≤ hi) (hq2 : ∀ p ∈ qs, lo ≤ p.2.1 ∧ p.2.1 < p.2.2.1 ∧ p.2.2.1 ≤ hi) (h9 : 2 + ps.length * (k + 1) + k + k < 8990) (h8 : 2 + qs.length * 2 * (k + 1) + k + k < 8990) :
    r_Rule_init (.o 0 []) [d1, d2, d3, d4] = some (.im .non, .o 0 (rlL lo hi (lwOf (ps.map (·.2))) (lsOf (qs.map (·.2))))) := by
  have hf : ps.length ≤ 8990 := by
    have : ps.length ≤ ps.length * (k + 1) := Nat.le_mul_of_pos_right _ (by omega)
    omega
  have hf2 : qs.length * 2 ≤ 8990 := by
    have : qs.length * 2 ≤ qs.length * 2 * (k + 1) := Nat.le_mul_of_pos_right _ (by omega)
    omega
  refine runB_st rfl ?_
  refine sb_nx (G1 := [.bx (.o 0 [vq lo, vq hi]), .im d1, .im d2, .im d3, .im d4, .un]) (by exact xasgF_ok (xcall_ok (xc1 rfl (xc1 rfl xnil_ok)) (v_need_stretch h1 h2 g1 g2 (by omega) hl)) rfl rfl) ?_
  have c1 : xlc (xseqI (xv 3)) (tgn 5) xtyes (xcall r_is_weight (xcons (xv 5) (xcons (xfldv 0 0 0) (xcons (xfldv 0 0 1) xnil)))) [5] [.bx (.o 0 [vq lo, vq hi]), .im d1, .im d2, .im d3, .im d4, .un] =
      some (.ol (ps.map fun _ => .bl true), [.bx (.o 0 [vq lo, vq hi]), .im d1, .im d2, .im d3, .im d4, .un]) := by
    refine xlc_un (xseqI_ok rfl h3.seq) rfl rfl rfl (xlcL_en (fun _ : D × Wt => .bl true) fun p hm => ?_) (by rw [List.length_map]; omega)
    obtain ⟨⟨w, p⟩, z⟩ : ∃ y : D × Wt, y = p := ⟨p, rfl⟩
    subst z
    obtain ⟨a, b, e, ha, hb⟩ := hp _ hm
    have e : w = .tup [a, b] := e
    subst e
    exact ⟨_, _, _, rfl, by exact xcall_ok (xc1 rfl (xc1 rfl (xc1 rfl xnil_ok))) (v_is_weight ha hb (hp1 _ hm).1 g1 g2 (by omega) (hp2 _ hm).1 (hp2 _ hm).2), rfl, rfl⟩
  have c2 : xlc (xseqI (xv 4)) (tgn 5) xtyes (xcall r_is_share (xcons (xv 5) (xcons (xfldv 0 0 0) (xcons (xfldv 0 0 1) xnil)))) [5] [.bx (.o 0 [vq lo, vq hi]), .im d1, .im d2, .im d3, .im d4, .un] =
      some (.ol (qs.map fun _ => .bl true), [.bx (.o 0 [vq lo, vq hi]), .im d1, .im d2, .im d3, .im d4, .un]) := by
    refine xlc_un (xseqI_ok rfl h4.seq) rfl rfl rfl (xlcL_en (fun _ : D × Sh => .bl true) fun p hm => ?_) (by rw [List.length_map]; omega)
    obtain ⟨⟨w, p⟩, z⟩ : ∃ y : D × Sh, y = p := ⟨p, rfl⟩
    subst z
    obtain ⟨a, b, c, e, ha, hb, hc⟩ := hq _ hm
    have e : w = .tup [a, b, c] := e
    subst e
    exact ⟨_, _, _, rfl, by exact xcall_ok (xc1 rfl (xc1 rfl (xc1 rfl xnil_ok))) (v_is_share ha hb hc (hq1 _ hm).1 (hq1 _ hm).2.1 g1 g2 (by omega) (by omega) (hq2 _ hm).1 (hq2 _ hm).2.1 (hq2 _ hm).2.2), rfl, rfl⟩
  have s3 : xcall r_is_sequence (xcons (xv 3) xnil) [.bx (.o 0 [vq lo, vq hi]), .im d1, .im d2, .im d3, .im d4, .un] = some (.im (.bl true), [.bx (.o 0 [vq lo, vq hi]), .im d1, .im d2, .im d3, .im d4, .un]) := xcall_ok (xc1 rfl xnil_ok) (v_is_sequence h3)
  have s4 : xcall r_is_sequence (xcons (xv 4) xnil) [.bx (.o 0 [vq lo, vq hi]), .im d1, .im d2, .im d3, .im d4, .un] = some (.im (.bl true), [.bx (.o 0 [vq lo, vq hi]), .im d1, .im d2, .im d3, .im d4, .un]) := xcall_ok (xc1 rfl xnil_ok) (v_is_sequence h4)
  refine sb_nx (G1 := [.bx (.o 0 [vq lo, vq hi]), .im d1, .im d2, .im d3, .im d4, .un]) ((xifs_ok (k := false) (xtor_b (k := false) (l := false) (xtnot_ok (k := true) (xtrub s3)) (xtnot_ok (k := true) (xtrub (xcb_ok (xcw c1 xnil_ok) (all_true ps)))))).trans rfl) ?_
  refine sb_nx (G1 := [.bx (.o 0 [vq lo, vq hi]), .im d1, .im d2, .im d3, .im d4, .un]) ((xifs_ok (k := false) (xtor_b (k := false) (l := false) (xtnot_ok (k := true) (xtrub s4)) (xtnot_ok (k := true) (xtrub (xcb_ok (xcw c2 xnil_ok) (all_true qs)))))).trans rfl) ?_
  have l1 := v_least_weights (d := d3) h3.seq hp hp1 h9 (by omega)
  have l2 := v_least_shares (d := d4) h4.seq hq hq1 h8
  refine sb_nx (G1 := [.bx (.o 0 [vq lo, vq hi, .tup ((lwOf (ps.map (·.2))).map wD)]), .im d1, .im d2, .im d3, .im d4, .un]) (by exact xsetf_ok (xcall_ok (xc1 rfl xnil_ok) l1) rfl) ?_
  have l3 : xsetf 0 0 3 (xcall r_least_shares (xcons (xv 4) xnil)) [.bx (.o 0 [vq lo, vq hi, .tup ((lwOf (ps.map (·.2))).map wD)]), .im d1, .im d2, .im d3, .im d4, .un] =
      some (.nx, [.bx (.o 0 (rlL lo hi (lwOf (ps.map (·.2))) (lsOf (qs.map (·.2))))), .im d1, .im d2, .im d3, .im d4, .un]) := xsetf_ok (xcall_ok (xc1 rfl xnil_ok) l2) rfl
  rw [l3]
  rfl
def Bw (c : Nat) (bs : Mob) : Prop := ∃ g r n : Int, bs = .l [.int g, .int r, .int n] ∧ 0 ≤ r ∧ r < 4294967296 ∧ 0 ≤ n ∧ n ≤ c
theorem Bw.up {c c' : Nat} {bs : Mob} (h : Bw c bs) (hc : c ≤ c') : Bw c' bs := by
  obtain ⟨g, r, n, h1, h2, h3, h4, h5⟩ := h
  exact ⟨g, r, n, h1, h2, h3, h4, by omega⟩
theorem v_w_choose {c : Nat} {bs : Mob} {m : Int} (hb : Bw c bs) (hc : c < 1000000) (hm : 0 < m) (hm9 : m < 1000000) : ∃ d bs', r_w_choose bs [.int m] = some (.im (.int d), bs') ∧ 0 ≤ d ∧ d < m ∧ Bw (c + 1) bs' := by
  obtain ⟨g, r, n, rfl, hr, hr9, hn, hn9⟩ := hb
  have om : okDiv m = true := Sm.okDiv (k := 20) (by unfold Sm; omega) (by omega) (by decide)
  have nm : decide (m ≠ 0) = true := decide_eq_true (by omega)
  by_cases hg : 0 < g
  · refine ⟨g.fmod m, .l [.int (g.fdiv m), .int r, .int n], ?_, (fmod_lt g hm).1, (fmod_lt g hm).2, ⟨_, _, _, rfl, hr, hr9, hn, by omega⟩⟩
    have e1 : xtest (xop opGt (xby 0 (xixv 0 (xc (.int 0))) (xop opIx (xv 0) (xc (.int 0)))) (xc (.int 0))) [.bl [.int g, .int r, .int n], .im (.int m), .un, .un] = some (true, [.bl [.int g, .int r, .int n], .im (.int m), .un, .un]) := by
      rw [← decide_eq_true hg]
      rfl
    have e2 : xput 0 (xop opFdiv (xby 0 (xixv 0 (xc (.int 0))) (xop opIx (xv 0) (xc (.int 0)))) (xv 1)) (xc (.int 0)) [.bl [.int g, .int r, .int n], .im (.int m), .im (.int (g.fmod m)), .un] = some (.nx, [.bl [.int (g.fdiv m), .int r, .int n], .im (.int m), .im (.int (g.fmod m)), .un]) := by
      unfold xput
      rw [xo2 rfl rfl (if_pos om)]
      rfl
    refine runB_st rfl ?_
    refine sb_rt (by exact (xifs_ok e1).trans (by exact (xseq_nx (xset_e (xo2 (xcb_ok (xc1 rfl xnil_ok) rfl) rfl (if_pos nm)) rfl)).trans ((xseq_nx e2).trans rfl))) rfl
  · have e1 : xtest (xop opGt (xby 0 (xixv 0 (xc (.int 0))) (xop opIx (xv 0) (xc (.int 0)))) (xc (.int 0))) [.bl [.int g, .int r, .int n], .im (.int m), .un, .un] = some (false, [.bl [.int g, .int r, .int n], .im (.int m), .un, .un]) := by
      rw [← decide_eq_false hg]
      rfl
    have o0 : okMul 104729 (n + 1) = true := Sm.okMul (k := 17) (l := 21) (by unfold Sm; decide) (by unfold Sm; omega) (by decide)
    have b0 : 0 ≤ 104729 * (n + 1) ∧ 104729 * (n + 1) ≤ 104729 * 1000001 := ⟨by omega, by omega⟩
    have o1 : okMul (r + 104729 * (n + 1)) 69621 = true := Sm.okMul (k := 39) (l := 17) (by unfold Sm; omega) (by unfold Sm; decide) (by decide)
    have b1 := fmod_lt ((r + 104729 * (n + 1)) * 69621) (b := 2147483647) (by decide)
    generalize h1 : ((r + 104729 * (n + 1)) * 69621).fmod 2147483647 = w at b1
    have o2 : okMul w 48271 = true := Sm.okMul (k := 33) (l := 17) (by unfold Sm; omega) (by unfold Sm; decide) (by decide)
    have b2 := fmod_lt (w * 48271 + 30103) (b := 2147483629) (by decide)
    generalize h2 : (w * 48271 + 30103).fmod 2147483629 = u at b2
    have o3 : okMul w 2147483647 = true := Sm.okMul (k := 33) (l := 33) (by unfold Sm; omega) (by unfold Sm; decide) (by decide)
    have o4 : okDiv 8191 = true := Sm.okDiv (k := 20) (by unfold Sm; decide) (by decide) (by decide)
    refine ⟨((w * 2147483647 + (u + 1)).fdiv 8191).fmod m, .l [.int g, .int (u + 1), .int (n + 1)], ?_, (fmod_lt _ hm).1, (fmod_lt _ hm).2, ⟨_, _, _, rfl, by omega, by omega, by omega, by omega⟩⟩
    refine runB_st rfl ?_
    refine sb_nx (by exact (xifs_ok e1).trans rfl) ?_
    refine sb_nx (G1 := [.bl [.int g, .int r, .int (n + 1)], .im (.int m), .un, .un]) (by rfl) ?_
    refine sb_nx (G1 := [.bl [.int g, .int r, .int (n + 1)], .im (.int m), .un, .im (.int w)]) (by
      rw [← h1]
      exact xset_e (xo2 (xcb_ok (xc1 (xo2 (xo2 rfl (xo2 rfl rfl (if_pos o0)) rfl) rfl (if_pos o1)) xnil_ok) rfl) rfl rfl) rfl) ?_
    refine sb_nx (G1 := [.bl [.int g, .int (u + 1), .int (n + 1)], .im (.int m), .un, .im (.int w)]) ?_ ?_
    · unfold xput
      have e4 : xop opAddB (xop opMod (xcb cbInt (xcons (xop opAddB (xop opMul (xv 3) (xc (.int 48271))) (xc (.int 30103))) xnil)) (xc (.int 2147483629))) (xc (.int 1)) [.bl [.int g, .int r, .int (n + 1)], .im (.int m), .un, .im (.int w)] = some (.im (.int (u + 1)), [.bl [.int g, .int r, .int (n + 1)], .im (.int m), .un, .im (.int w)]) := by
        rw [← h2]
        exact xo2 (xo2 (xcb_ok (xc1 (xo2 (xo2 rfl rfl (if_pos o2)) rfl rfl) xnil_ok) rfl) rfl rfl) rfl rfl
      rw [e4]
      rfl
    · exact sb_ret (G1 := [.im (.int m), .un, .im (.int w)]) (by exact xo2 (xcb_ok (xc1 (xo2 (xo2 (xo2 rfl rfl (if_pos o3)) rfl rfl) rfl (o_div o4)) xnil_ok) rfl) rfl (if_pos nm))
theorem v_w_one_of {c : Nat} {bs : Mob} {xs : List D} (hb : Bw c bs) (hc : c < 1000000) (h : 0 < xs.length) (h9 : xs.length < 1000000) : ∃ d bs', r_w_one_of bs [.lst xs] = some (.im d, bs') ∧ d ∈ xs ∧ Bw (c + 1) bs' := by
  obtain ⟨i, bs', h1, h2, h3, h4⟩ := v_w_choose (m := (xs.length : Int)) hb hc (by omega) (by omega)
  obtain ⟨d, hd, hm⟩ := atI_ok h2 h3
  refine ⟨d, bs', ?_, hm, h4⟩
  have ho : opIx (.lst xs) (.int i) = some (.im d) := by
    show (atI xs i).map R.im = _
    rw [hd]
    rfl
  exact runB_st rfl (sb_ret (G1 := [.im (.lst xs)]) (by exact xo2 rfl (xcallB_ok rfl (xc1 rfl xnil_ok) rfl rfl h1 rfl) ho))
theorem v_w_less {a b : Rat} {k l : Nat} (ha : Ht a k) (hb : Ht b l) (h9 : k + l < 8990) : r_w_less [vq a, vq b] = some (.im (.bl (decide (a < b)))) := by
  have e : decide (a < b) = decide (a.num * b.den < b.num * a.den) := decide_eq_decide.mpr (Rat.lt_iff a b)
  rw [e]
  exact runF_st rfl (st_ret (xo2 (xo2 rfl rfl (if_pos (ha.1.okMul hb.2 (by omega)))) (xo2 rfl rfl (if_pos (hb.1.okMul ha.2 (by omega)))) rfl))
theorem fmod_small {x y : Int} (hy : y ≠ 0) : (x.fmod y).natAbs < y.natAbs := by
  by_cases h : 0 < y
  · have a := Int.fmod_nonneg_of_pos x h
    have b := Int.fmod_lt_of_pos x h
    omega
  · have e := Int.neg_fmod_neg x y
    have a := Int.fmod_nonneg_of_pos (-x) (b := -y) (by omega)
    have b := Int.fmod_lt_of_pos (-x) (b := -y) (by omega)
    rw [e] at a b
    omega
theorem fmod_gcd (x y : Int) : Nat.gcd y.natAbs (x.fmod y).natAbs = Nat.gcd x.natAbs y.natAbs := by
  have h : Int.gcd y (x.fmod y) = Int.gcd y x := by
    rw [Int.fmod_def, show x - y * x.fdiv y = x + y * (-(x.fdiv y)) by rw [Int.mul_neg]; rfl, Int.gcd_add_mul_left_right]
  rw [Nat.gcd_comm x.natAbs]
  exact h
theorem div_loopI (c : M Bool) (b : MS) (hc : ∀ x y : Int, c [.im (.int x), .im (.int y)] = some (!decide (y = 0), [.im (.int x), .im (.int y)]))
    (hb : ∀ x y : Int, y ≠ 0 → b [.im (.int x), .im (.int y)] = some (.nx, [.im (.int y), .im (.int (x.fmod y))])) :
    ∀ (n : Nat) (x y : Int), y.natAbs < n → ∃ g : Int, xwhileN c b n [.im (.int x), .im (.int y)] = some (.nx, [.im (.int g), .im (.int 0)]) ∧ g.natAbs = Nat.gcd x.natAbs y.natAbs
  | 0, _, _, h => absurd h (Nat.not_lt_zero _)
  | n + 1, x, y, h => by
    unfold xwhileN
    rw [hc]
    simp only [bd_some]
    by_cases z : y = 0
    · subst z
      exact ⟨x, by simp, by simp⟩
    · rw [decide_eq_false z]
      simp only [Bool.not_false, if_true]
      rw [hb x y z]
      obtain ⟨g, g1, g2⟩ := div_loopI c b hc hb n y (x.fmod y) (by have := fmod_small (x := x) z; omega)
      exact ⟨g, g1, g2.trans (fmod_gcd x y)⟩
theorem v_w_divisor (a b : Int) : r_w_divisor [.int a, .int b] = some (.im (.int (Nat.gcd a.natAbs b.natAbs : Nat))) := by
  obtain ⟨g, g1, g2⟩ := div_loopI (xtest (xop opNe (xv 1) (xc (.int 0)))) b_w_divisor_1 (fun x y => rfl) (fun x y hy => by
    have h0 : decide (y ≠ 0) = true := decide_eq_true hy
    have e : xop opMod (xcb cbInt (xcons (xv 0) xnil)) (xv 1) [.im (.int x), .im (.int y)] = some (.im (.int (x.fmod y)), [.im (.int x), .im (.int y)]) := xop_ok rfl rfl (if_pos h0)
    have e2 : ycons (xv 1) (ycons (xop opMod (xcb cbInt (xcons (xv 0) xnil)) (xv 1)) ynil) [.im (.int x), .im (.int y)] = some ([.im (.int y), .im (.int (x.fmod y))], [.im (.int x), .im (.int y)]) := ycons_ok rfl (ycons_ok e rfl)
    exact ypar_ok e2) (b.natAbs + 1) a b (Nat.lt_succ_self _)
  refine runF_st rfl ?_
  unfold b_w_divisor
  refine st_nx (by exact g1) ?_
  rw [← g2, ← abs_nat g]
  exact st_ret rfl
theorem v_area {d1 d2 : D} {lo hi : Rat} {k : Nat} (h1 : IsV d1 lo) (h2 : IsV d2 hi) (g1 : Ht lo k) (g2 : Ht hi k) (hl : lo < hi) (hk : 1 ≤ k) (h9 : k < 1000) : r_area [d1, d2] = some (.ow (.o 0 (rlL lo hi (lwOf []) (lsOf [(lo, hi, 1)])))) := by
  have n1 := v_need_stretch h1 h2 g1 g2 (by omega) hl
  have i1 := v_Rule_init (d1 := vq lo) (d2 := vq hi) (d3 := .lst []) (d4 := .lst [.tup [vq lo, vq hi, .int 1]]) (ps := []) (qs := [(.tup [vq lo, vq hi, .int 1], (lo, hi, 1))]) (k := k) (isV_vq lo) (isV_vq hi) g1 g2 hl (.inl rfl) (.inl rfl) (by simp) (fun p hp => by
    rw [List.mem_singleton.mp hp]
    exact ⟨_, _, _, rfl, isV_vq lo, isV_vq hi, isV_int 1⟩) (by simp) (fun p hp => by
    rw [List.mem_singleton.mp hp]
    exact ⟨g1, g2, (Ht.int (i := 1) (k := 1) (by unfold Sm; decide) (by decide)).up hk⟩) (by simp) (fun p hp => by
    rw [List.mem_singleton.mp hp]
    exact ⟨Rat.le_refl, hl, Rat.le_refl⟩) (by rw [List.length_nil]; omega) (by simp only [List.length_cons, List.length_nil]; omega)
  refine runF_st rfl ?_
  refine st_nx (G1 := [.im d1, .im d2, .im (vq lo), .im (vq hi)]) (by exact xasg_ok (xcall_ok (xc1 rfl (xc1 rfl xnil_ok)) n1) rfl) ?_
  exact st_ret (G1 := [.im d1, .im d2, .im (vq lo), .im (vq hi)]) (by exact xmake_ok (xs := [vq lo, vq hi, .lst [], .lst [.tup [vq lo, vq hi, .int 1]]]) (by rfl) i1)
theorem v_less_by {a b : Rat} {k l : Nat} (ha : Ht a k) (hb : Ht b l) (h9 : k + l < 8990) : r_less_by [vq a, vq b] = some (.im (vq (a - b))) := by
  rw [← sub_divInt]
  exact runF_st rfl (st_ret (xcall_ok (xc1 (xo2 (xo2 rfl rfl (if_pos (ha.1.okMul hb.2 (by omega)))) (xo2 rfl rfl (if_pos (hb.1.okMul ha.2 (by omega)))) rfl) (xc1 (xo2 rfl rfl (if_pos (ha.2.okMul hb.2 (by omega)))) xnil_ok)) (v_lowest (Int.mul_ne_zero (den_ne a) (den_ne b)) (ha.2.mul hb.2) (by omega))))
theorem v_multiplied {a b : Rat} {k l : Nat} (ha : Ht a k) (hb : Ht b l) (h9 : k + l < 8990) : r_multiplied [vq a, vq b] = some (.im (vq (a * b))) := by
  rw [← mul_divInt]
  exact runF_st rfl (st_ret (xcall_ok (xc1 (xo2 rfl rfl (if_pos (ha.1.okMul hb.1 (by omega)))) (xc1 (xo2 rfl rfl (if_pos (ha.2.okMul hb.2 (by omega)))) xnil_ok)) (v_lowest (Int.mul_ne_zero (den_ne a) (den_ne b)) (ha.2.mul hb.2) (by omega))))
theorem v_quotient {a b : Rat} {k l : Nat} (ha : Ht a k) (hb : Ht b l) (h0 : b ≠ 0) (h9 : k + l < 8990) : r_quotient [vq a, vq b] = some (.im (vq (a / b))) := by
  rw [← div_divInt]
  exact runF_st rfl (st_ret (xcall_ok (xc1 (xo2 rfl rfl (if_pos (ha.1.okMul hb.2 (by omega)))) (xc1 (xo2 rfl rfl (if_pos (ha.2.okMul hb.1 (by omega)))) xnil_ok)) (v_lowest (Int.mul_ne_zero (den_ne a) (fun h => h0 (Rat.num_eq_zero.mp h))) (ha.2.mul hb.1) (by omega))))
theorem ap_loop {x0 : Ent} {kc ki : Nat} (h9 : kc + ki < 8990) : ∀ (cs : List Rat) (i : Nat), (∀ c ∈ cs, Ht c kc) → i + cs.length < 2 ^ ki →
    xlcL (tgt [(tgn 1), (tgn 2)]) xtyes (xcall r_quotient (xcons (xv 2) (xcons (xtup (xcons (xop opAddB (xv 1) (xc (.int 1))) (xcons (xc (.int 1)) xnil))) xnil))) [1, 2] (enumD i (cs.map vq)) [x0, .un, .un] = some ((apow i cs).map vq, [x0, .un, .un])
  | [], i, _, _ => rfl
  | c :: cs, i, hc, hi => by
    have ih := ap_loop (x0 := x0) h9 cs (i + 1) (fun y hy => hc y (List.mem_cons_of_mem _ hy)) (by rw [List.length_cons] at hi; omega)
    have hq := v_quotient (hc c List.mem_cons_self) (idx_ht (i := i) (ki := ki) (by rw [List.length_cons] at hi; omega)) (idx_ne i) h9
    show xlcL _ _ _ _ (.tup [.int (i : Int), vq c] :: enumD (i + 1) (cs.map vq)) _ = _
    unfold xlcL
    rw [show tgt [(tgn 1), (tgn 2)] (.tup [.int (i : Int), vq c]) [x0, .un, .un] = some [x0, .im (.int i), .im (vq c)] from rfl]
    have e : xcall r_quotient (xcons (xv 2) (xcons (xtup (xcons (xop opAddB (xv 1) (xc (.int 1))) (xcons (xc (.int 1)) xnil))) xnil)) [x0, .im (.int i), .im (vq c)] = some (.im (vq (c / (((i : Int) + 1 : Int) : Rat))), [x0, .im (.int i), .im (vq c)]) :=
      xcall_ok (xc1 rfl (xc1 (d := vq (((i : Int) + 1 : Int) : Rat)) (by rfl) xnil_ok)) hq
    simp only [xtyes, bd_some, if_true, e]
    rw [show wipeG [x0, .im (.int i), .im (vq c)] [1, 2] = [x0, .un, .un] from rfl]
    rw [ih]
    rfl
theorem v_area_powers {d : D} {cs : List Rat} {kc ki : Nat} (hd : seqD d = some (cs.map vq)) (hc : ∀ c ∈ cs, Ht c kc) (hi : cs.length < 2 ^ ki) (h9 : kc + ki < 8990) (hf : cs.length < 100000) : r_area_powers [d] = some (.ol ((areaP cs).map vq)) := by
  have h1 := ap_loop (x0 := .im d) h9 cs 0 hc (by omega)
  have h2 : xenumA (xcons (xv 0) xnil) [.im d, .un, .un] = some (enumD 0 (cs.map vq), [.im d, .un, .un]) := by
    unfold xenumA
    rw [xc1 (d := d) rfl xnil_ok]
    simp only [bd_some, hd]
  refine runF_st rfl (st_ret (G1 := [.im d, .un, .un]) ?_)
  refine xlst_ok (xs := (areaP cs).map vq) (xc1 rfl ?_) (fewl ?_)
  · have := xstar_ok (ds := (apow 0 cs).map vq) (xlc_un h2 rfl rfl rfl h1 (by rw [List.length_map, apow_len]; omega)) rfl xnil_ok
    rw [List.append_nil] at this
    exact this
  · rw [List.length_map]
    show (apow 0 cs).length + 1 ≤ _
    rw [apow_len]
    omega
theorem va_loop {x0 : Ent} {x : Rat} {kc kx : Nat} (hx : Ht x kx) : ∀ (l : List Rat) (a : Rat) (m : Nat) (e : Ent), Ht a m → (∀ c ∈ l, Ht c kc) → m + l.length * (kx + kc + 1) + kx + kc < 8990 →
    ∃ e', xforL (tgn 3) b_value_at_1 (l.map vq) [x0, .im (vq x), .im (vq a), e] = some (.nx, [x0, .im (vq x), .im (vq (l.foldl (fun a c => a * x + c) a)), e'])
  | [], a, m, e, _, _, _ => ⟨e, rfl⟩
  | c :: l, a, m, e, ha, hc, h9 => by
    have el : (c :: l).length * (kx + kc + 1) = l.length * (kx + kc + 1) + (kx + kc + 1) := by rw [List.length_cons, Nat.add_mul]; omega
    rw [el] at h9
    obtain ⟨e', ih⟩ := va_loop (x0 := x0) hx l (a * x + c) (m + kx + kc + 1) (.im (vq c)) ((ha.mul hx).add (hc c List.mem_cons_self)) (fun y hy => hc y (List.mem_cons_of_mem _ hy)) (by omega)
    refine ⟨e', (xforL_nx (G1 := [x0, .im (vq x), .im (vq a), .im (vq c)]) rfl ?_).trans ih⟩
    unfold b_value_at_1
    exact xset_e (xcall_ok (xc1 (xcall_ok (xc1 rfl (xc1 rfl xnil_ok)) (v_multiplied ha hx (by omega))) (xc1 rfl xnil_ok)) (v_added (ha.mul hx) (hc c List.mem_cons_self) (by omega))) rfl
theorem v_value_at {d : D} {cs : List Rat} {x : Rat} {kc kx : Nat} (hd : asL d = some (cs.map vq)) (hc : ∀ c ∈ cs, Ht c kc) (hx : Ht x kx) (h9 : 1 + cs.length * (kx + kc + 1) + kx + kc < 8990) : r_value_at [d, vq x] = some (.im (vq (hor cs x))) := by
  obtain ⟨e', h1⟩ := va_loop (x0 := .im d) hx cs.reverse 0 1 .un ht0 (fun c h => hc c (List.mem_reverse.mp h)) (by rw [List.length_reverse]; exact h9)
  rw [hor_rev] at h1
  refine runF_st rfl ?_
  refine st_nx (G1 := [.im d, .im (vq x), .im (vq 0), .un]) (by rfl) ?_
  refine st_nx (by exact xfor_ok (ds := cs.reverse.map vq) (xseqR_ok (xrev_ok (ds := cs.map vq) rfl rfl hd rfl) (by rw [List.map_reverse]; rfl)) h1) ?_
  exact st_ret rfl
theorem v_told {lo hi : Rat} {ws : List Wt} {ss : List Sh} {e : D} {cp : List (D × Rat)} {kp kw kc ki : Nat} (he : seqD e = some (cp.map (·.1))) (hc : ∀ p ∈ cp, IsV p.1 p.2) (t : TolOk ws ss (cp.map (·.2)) kp kw kc ki) :
    r_told [.obj 0 (rlL lo hi ws ss), e] = some (.im (vq (tol ws ss (cp.map (·.2))))) := by
  have t9 := t.t
  have big : ∀ a b : Nat, a ≤ a * (b + 1) := fun a b => Nat.le_mul_of_pos_right _ (by omega)
  have hlen : (cp.map (·.2)).length = cp.length := List.length_map _
  have n1 : (cp.length + 1) * 2 ≤ (cp.length + 1) * (kp + kc + ki + 2) := Nat.mul_le_mul (Nat.le_refl _) (by omega)
  have hcl : cp.length ≤ 100000 := by
    have t8 := t.t
    rw [hlen] at t8
    omega
  have c1 : xlc (xseqI (xv 1)) (tgn 8) xtyes (xcall r_value_of (xcons (xv 8) xnil)) [8] [.im (.obj 0 (rlL lo hi ws ss)), .im e, .un, .un, .un, .un, .un, .un, .un, .un, .un] =
      some (.ol (cp.map fun p => vq p.2), [.im (.obj 0 (rlL lo hi ws ss)), .im e, .un, .un, .un, .un, .un, .un, .un, .un, .un]) := by
    refine xlc_un (xseqI_ok rfl he) rfl rfl rfl (xlcL_en (fun p : D × Rat => vq p.2) fun p hm => ?_) (by rw [List.length_map]; exact hcl)
    exact ⟨_, _, _, rfl, by exact xcall_ok (xc1 rfl xnil_ok) (v_value_of (hc p hm)), rfl, rfl⟩
  rw [show (cp.map fun p => vq p.2) = (cp.map (·.2)).map vq by rw [List.map_map]; rfl] at c1
  rw [← hlen] at n1
  clear he hc hlen
  generalize cp.map (·.2) = cs at c1 t n1 t9 ⊢
  have mw : ∀ m : Nat, m * 1 ≤ m * ((kw + 2 * (1 + (cs.length + 1) * (kp + kc + ki + 2)) + 1) + 1) := fun m => Nat.mul_le_mul (Nat.le_refl _) (by omega)
  have mw1 := mw (ws.length + ss.length)
  have nh : 1 + cs.length * (kp + kc + 1) ≤ 1 + (cs.length + 1) * (kp + kc + ki + 2) := by
    have : cs.length * (kp + kc + 1) ≤ (cs.length + 1) * (kp + kc + ki + 2) := Nat.mul_le_mul (by omega) (by omega)
    omega
  have nA : 1 + (areaP cs).length * (kp + (kc + ki + 1) + 1) ≤ 1 + (cs.length + 1) * (kp + kc + ki + 2) := by
    rw [areaP_len]
    have : (cs.length + 1) * (kp + (kc + ki + 1) + 1) ≤ (cs.length + 1) * (kp + kc + ki + 2) := Nat.mul_le_mul (Nat.le_refl _) (by omega)
    omega
  have kpb : kp + kc + ki + 2 ≤ (cs.length + 1) * (kp + kc + ki + 2) := Nat.le_mul_of_pos_left _ (by omega)
  have hcv : ∀ x : Rat, Ht x kp → r_value_at [.lst (cs.map vq), vq x] = some (.im (vq (hor cs x))) := fun x hx => v_value_at rfl t.c hx (by omega)
  have hav : ∀ x : Rat, Ht x kp → r_value_at [.lst ((areaP cs).map vq), vq x] = some (.im (vq (hor (areaP cs) x))) := fun x hx => v_value_at rfl (areaP_ht t.c t.i) hx (by omega)
  have c2 := v_area_powers (d := .lst (cs.map vq)) rfl t.c t.i (by omega) (by omega)
  have c3 : xlc (xseqI (xfld 0 2 (xv 0))) (tgt [(tgn 9), (tgn 10)]) xtyes (xcall r_multiplied (xcons (xv 10) (xcons (xcall r_value_at (xcons (xv 2) (xcons (xv 9) xnil))) xnil))) [9, 10]
      [.im (.obj 0 (rlL lo hi ws ss)), .im e, .im (.lst (cs.map vq)), .ol ((areaP cs).map vq), .un, .un, .un, .un, .un, .un, .un] = some (.ol (ws.map fun w => vq (w.2 * hor cs w.1)), [.im (.obj 0 (rlL lo hi ws ss)), .im e, .im (.lst (cs.map vq)), .ol ((areaP cs).map vq), .un, .un, .un, .un, .un, .un, .un]) := by
    refine xlc_un (by rfl) rfl rfl rfl (xlcL_en (fun w : Wt => vq (w.2 * hor cs w.1)) fun w hm => ?_) (by rw [List.length_map]; omega)
    obtain ⟨w1, w2⟩ := t.w w hm
    exact ⟨[.im (.obj 0 (rlL lo hi ws ss)), .im e, .im (.lst (cs.map vq)), .ol ((areaP cs).map vq), .un, .un, .un, .un, .un, .im (vq w.1), .im (vq w.2)], _, _, rfl, by exact xcall_ok (xc1 rfl (xc1 (xcall_ok (xc1 rfl (xc1 rfl xnil_ok)) (hcv _ w1)) xnil_ok)) (v_multiplied w2 (t.hor w1) (by omega)), rfl, rfl⟩
  have c4 : ∀ (l : List Sh) (acc : List Rat) (x3 e5 e6 e7 : Ent), (x3 = .ol ((areaP cs).map vq) ∨ x3 = .im (.lst ((areaP cs).map vq))) → (∀ s ∈ l, Ht s.1 kp ∧ Ht s.2.1 kp ∧ Ht s.2.2 kw) → acc.length + l.length ≤ 100000 →
      ∃ x3' e5' e6' e7', xforL (tgt [(tgn 5), (tgn 6), (tgn 7)]) b_told_1 (l.map sD) [.im (.obj 0 (rlL lo hi ws ss)), .im e, .im (.lst (cs.map vq)), x3, .ol (acc.map vq), e5, e6, e7, .un, .un, .un] =
        some (.nx, [.im (.obj 0 (rlL lo hi ws ss)), .im e, .im (.lst (cs.map vq)), x3', .ol ((acc ++ l.map fun s => s.2.2 * (hor (areaP cs) s.2.1 - hor (areaP cs) s.1)).map vq), e5', e6', e7', .un, .un, .un]) := by
    intro l
    induction l with
    | nil =>
      intro acc x3 e5 e6 e7 _ _ _
      exact ⟨x3, e5, e6, e7, by rw [List.map_nil, List.map_nil, List.append_nil]; rfl⟩
    | cons s l ih =>
      intro acc x3 e5 e6 e7 h3 hl hn
      obtain ⟨s1, s2, s3⟩ := hl s List.mem_cons_self
      obtain ⟨f3, f5, f6, f7, ih⟩ := ih (acc ++ [s.2.2 * (hor (areaP cs) s.2.1 - hor (areaP cs) s.1)]) (.im (.lst ((areaP cs).map vq))) (.im (vq s.1)) (.im (vq s.2.1)) (.im (vq s.2.2)) (.inr rfl) (fun y hy => hl y (List.mem_cons_of_mem _ hy)) (by simp at hn ⊢; omega)
      rw [List.append_assoc] at ih
      refine ⟨f3, f5, f6, f7, ?_⟩
      refine (xforL_nx (G1 := [.im (.obj 0 (rlL lo hi ws ss)), .im e, .im (.lst (cs.map vq)), x3, .ol (acc.map vq), .im (vq s.1), .im (vq s.2.1), .im (vq s.2.2), .un, .un, .un]) rfl ?_).trans ih
      have hx3 : xv 3 [.im (.obj 0 (rlL lo hi ws ss)), .im e, .im (.lst (cs.map vq)), x3, .ol (acc.map vq), .im (vq s.1), .im (vq s.2.1), .im (vq s.2.2), .un, .un, .un] = some (.im (.lst ((areaP cs).map vq)), [.im (.obj 0 (rlL lo hi ws ss)), .im e, .im (.lst (cs.map vq)), .im (.lst ((areaP cs).map vq)), .ol (acc.map vq), .im (vq s.1), .im (vq s.2.1), .im (vq s.2.2), .un, .un, .un]) := by
        rcases h3 with rfl | rfl <;> rfl
      unfold b_told_1
      refine xapp_ok (bs := acc.map vq) (by rfl) (by exact xcall_ok (xc1 rfl (xc1 (xcall_ok (xc1 (xcall_ok (xc1 hx3 (xc1 rfl xnil_ok)) (hav _ s2)) (xc1 (xcall_ok (xc1 rfl (xc1 rfl xnil_ok)) (hav _ s1)) xnil_ok)) (v_less_by (t.horA s2) (t.horA s1) (by omega))) xnil_ok)) (v_multiplied s3 ((t.horA s2).sub (t.horA s1)) (by omega))) rfl rfl (by rw [List.length_map]; simp only [List.length_cons] at hn; omega) ?_
      rw [List.map_append]
      rfl
  obtain ⟨f3, f5, f6, f7, c5⟩ := c4 ss (ws.map fun w => w.2 * hor cs w.1) _ .un .un .un (.inl rfl) t.s (by rw [List.length_map]; omega)
  rw [show (ws.map fun w => vq (w.2 * hor cs w.1)) = (ws.map fun w => w.2 * hor cs w.1).map vq by rw [List.map_map]; rfl] at c3
  have c6 := v_summed (d := .lst ((tolL ws ss cs).map vq)) (qs := tolL ws ss cs) rfl (tolL_ht t) (by rw [tolL_len]; omega)
  rw [tolL_sum] at c6
  refine runF_st rfl ?_
  refine st_nx (by exact xset_e c1 rfl) ?_
  refine st_nx (by exact xset_e (xcall_ok (xc1 rfl xnil_ok) c2) rfl) ?_
  refine st_nx (by exact xset_e c3 rfl) ?_
  refine st_nx (by exact xfor_ok (ds := ss.map sD) (by rfl) c5) ?_
  exact st_ret (by exact xcall_ok (xc1 rfl xnil_ok) c6)
def lagW (lo hi : Rat) (pts : List Rat) (p : Rat) : Rat := hor (areaP (lagP pts p)) hi - hor (areaP (lagP pts p)) lo
def Pts (lo hi : Rat) (pts : List Rat) : Prop := pts.Pairwise (· < ·) ∧ (∀ p ∈ pts, Dv 72 1300 p ∧ lo ≤ p ∧ p ≤ hi) ∧ pts.length ≤ 6
theorem Pts.oth {lo hi : Rat} {pts : List Rat} (h : Pts lo hi pts) {p : Rat} (hp : p ∈ pts) : (∀ o ∈ Bk.oth pts p, Dv 72 1300 o ∧ p ≠ o) ∧ (Bk.oth pts p).length ≤ 5 := by
  refine ⟨fun o ho => ?_, ?_⟩
  · have h1 := List.mem_filter.mp ho
    refine ⟨(h.2.1 o h1.1).1, fun e => ?_⟩
    have := h1.2
    rw [e] at this
    simp at this
  · have := oth_len h.1 hp
    have := h.2.2
    omega
theorem Pts.lagDv {lo hi : Rat} {pts : List Rat} (h : Pts lo hi pts) {p : Rat} (hp : p ∈ pts) : ∃ D, D ≠ 0 ∧ D ≤ 2600 ^ 5 ∧ ∀ c ∈ lagP pts p, Dv D (1372 ^ 5) c := by
  obtain ⟨h1, h2⟩ := h.oth hp
  obtain ⟨D, d1, d2, d3⟩ := lag_dv (h.2.1 p hp).1 (Bk.oth pts p) [1] 1 1 h1 (by decide) (fun c hc => by rw [List.mem_singleton.mp hc]; exact Dv.one)
  rw [Nat.one_mul] at d2
  refine ⟨D, d1, Nat.le_trans d2 (Nat.pow_le_pow_right (by decide) h2), fun c hc => (d3 c hc).up ?_⟩
  rw [Nat.one_mul]
  exact Nat.pow_le_pow_right (by decide) h2
theorem Pts.w {lo hi : Rat} {pts : List Rat} (h : Pts lo hi pts) (hlo : Dv 72 1300 lo) (hhi : Dv 72 1300 hi) {p : Rat} (hp : p ∈ pts) : Ht (lagW lo hi pts p) 200 := by
  obtain ⟨D, d1, d2, d3⟩ := h.lagDv hp
  have ln : (lagP pts p).length ≤ 6 := by rw [lagP_len h.1 hp]; exact h.2.2
  have ha := apow_dv (C := D) (Y := 1372 ^ 5) (M := 60) (by decide) (n := 6) (fun i hi => by
    have : i = 0 ∨ i = 1 ∨ i = 2 ∨ i = 3 ∨ i = 4 ∨ i = 5 := by omega
    rcases this with rfl | rfl | rfl | rfl | rfl | rfl <;> decide) (cs := lagP pts p) (i := 0) d3 (by omega)
  have hA : ∀ c ∈ areaP (lagP pts p), Dv (D * 60) (1372 ^ 5 * 60) c := fun c hc => by
    rcases List.mem_cons.mp hc with rfl | hc
    · exact (Dv.zero (Nat.mul_ne_zero d1 (by decide))).up (Nat.zero_le _)
    · exact ha c hc
  have lA : (areaP (lagP pts p)).length ≤ 6 + 1 := by rw [areaP_len]; omega
  have x1 := hor_dv (n := 6) hhi (by decide) (Nat.mul_ne_zero d1 (by decide)) hA lA
  have x2 := hor_dv (n := 6) hlo (by decide) (Nat.mul_ne_zero d1 (by decide)) hA lA
  refine (x1.sub x2).ht ?_ (by decide)
  exact Nat.lt_of_le_of_lt (Nat.mul_le_mul (Nat.mul_le_mul d2 (Nat.le_refl _)) (Nat.le_refl _)) (by decide)
theorem v_w_lowest {a b : Int} {k : Nat} (hb : b ≠ 0) (hk : Sm b k) (h9 : k < 9000) : r_w_lowest [.int a, .int b] = some (.im (vq (Rat.divInt a b))) := by
  have e3 : xif (xtest (xop opGt (xv 1) (xc (.int 0)))) (xc (.int 1)) (xop opSub (xc (.int 0)) (xc (.int 1))) [.im (.int a), .im (.int b), .un] =
      some (.im (.int (if b < 0 then -1 else 1)), [.im (.int a), .im (.int b), .un]) := by
    unfold xif
    rw [show xtest (xop opGt (xv 1) (xc (.int 0))) [.im (.int a), .im (.int b), .un] = some (decide (0 < b), [.im (.int a), .im (.int b), .un]) from rfl]
    simp only [bd_some]
    by_cases h : b < 0
    · rw [if_pos h, decide_eq_false (by omega)]; rfl
    · rw [if_neg h, decide_eq_true (by omega)]; rfl
  have eg : ((Nat.gcd a.natAbs b.natAbs : Nat) : Int) * (if b < 0 then -1 else 1) = (if b < 0 then -((Nat.gcd a.natAbs b.natAbs : Nat) : Int) else ((Nat.gcd a.natAbs b.natAbs : Nat) : Int)) := by
    split <;> omega
  have g0 : Nat.gcd a.natAbs b.natAbs ≠ 0 := by
    intro z
    have := Nat.eq_zero_of_gcd_eq_zero_right z
    omega
  have gle : Nat.gcd a.natAbs b.natAbs ≤ b.natAbs := Nat.gcd_le_right _ (by omega)
  have gs1 : Sm ((Nat.gcd a.natAbs b.natAbs : Nat) : Int) k := by
    unfold Sm at *
    omega
  have om : okMul ((Nat.gcd a.natAbs b.natAbs : Nat) : Int) (if b < 0 then -1 else 1) = true := gs1.okMul (l := 2) (by unfold Sm; split <;> decide) (by omega)
  have n1 := low_num (n := a) hb
  have n2 := low_den (n := a) hb
  have gs : Sm (if b < 0 then -((Nat.gcd a.natAbs b.natAbs : Nat) : Int) else ((Nat.gcd a.natAbs b.natAbs : Nat) : Int)) k := by
    unfold Sm at *
    split <;> omega
  have gn : (if b < 0 then -((Nat.gcd a.natAbs b.natAbs : Nat) : Int) else ((Nat.gcd a.natAbs b.natAbs : Nat) : Int)) ≠ 0 := by split <;> omega
  have ok := gs.okDiv gn h9
  rw [vq, ← n1, ← n2]
  rw [← eg] at ok ⊢
  refine runF_st rfl ?_
  refine st_nx (by exact xset_e (xop_ok (xcall_ok (xc1 rfl (xc1 rfl xnil_ok)) (v_w_divisor a b)) e3 (if_pos om)) rfl) ?_
  exact st_ret (by exact xtup_ok (xc1 (xo2 rfl rfl (if_pos ok)) (xc1 (xo2 rfl rfl (if_pos ok)) xnil_ok)) rfl)
theorem v_w_minus {a b : Rat} {k l : Nat} (ha : Ht a k) (hb : Ht b l) (h9 : k + l < 8990) : r_w_minus [vq a, vq b] = some (.im (vq (a - b))) := by
  rw [← sub_divInt]
  exact runF_st rfl (st_ret (xcall_ok (xc1 (xo2 (xo2 rfl rfl (if_pos (ha.1.okMul hb.2 (by omega)))) (xo2 rfl rfl (if_pos (hb.1.okMul ha.2 (by omega)))) rfl) (xc1 (xo2 rfl rfl (if_pos (ha.2.okMul hb.2 (by omega)))) xnil_ok)) (v_w_lowest (Int.mul_ne_zero (den_ne a) (den_ne b)) (ha.2.mul hb.2) (by omega))))
theorem v_w_plus {a b : Rat} {k l : Nat} (ha : Ht a k) (hb : Ht b l) (h9 : k + l < 8990) : r_w_plus [vq a, vq b] = some (.im (vq (a + b))) := by
  rw [← add_divInt]
  exact runF_st rfl (st_ret (xcall_ok (xc1 (xo2 (xo2 rfl rfl (if_pos (ha.1.okMul hb.2 (by omega)))) (xo2 rfl rfl (if_pos (hb.1.okMul ha.2 (by omega)))) rfl) (xc1 (xo2 rfl rfl (if_pos (ha.2.okMul hb.2 (by omega)))) xnil_ok)) (v_w_lowest (Int.mul_ne_zero (den_ne a) (den_ne b)) (ha.2.mul hb.2) (by omega))))
theorem v_w_times {a b : Rat} {k l : Nat} (ha : Ht a k) (hb : Ht b l) (h9 : k + l < 8990) : r_w_times [vq a, vq b] = some (.im (vq (a * b))) := by
  rw [← mul_divInt]
  exact runF_st rfl (st_ret (xcall_ok (xc1 (xo2 rfl rfl (if_pos (ha.1.okMul hb.1 (by omega)))) (xc1 (xo2 rfl rfl (if_pos (ha.2.okMul hb.2 (by omega)))) xnil_ok)) (v_w_lowest (Int.mul_ne_zero (den_ne a) (den_ne b)) (ha.2.mul hb.2) (by omega))))
def p7 : List Rat := [0, 1 / 4, 1 / 3, 1 / 2, 2 / 3, 3 / 4, 1]
theorem v_w_pointP {c : Nat} {bs : Mob} {lo hi : Rat} (hb : Bw c bs) (hc : c < 900000) (h1 : Ht lo 4) (h2 : Ht hi 8) (hl : lo < hi) (hv : Dv 12 180 lo) (hv2 : Dv 6 12 (hi - lo)) : ∃ q bs', r_w_point bs [vq lo, vq hi] = some (.im (vq q), bs') ∧ Ht q 21 ∧ lo ≤ q ∧ q ≤ hi ∧ Bw (c + 1) bs' ∧ Dv 72 1300 q ∧ ∃ p ∈ p7, q = lo + p * (hi - lo) := by
  obtain ⟨d, b1, c1, c2, c3⟩ := v_w_one_of (xs := [.tup [.int 0, .int 1], .tup [.int 1, .int 1], .tup [.int 1, .int 2], .tup [.int 1, .int 3], .tup [.int 2, .int 3], .tup [.int 1, .int 4], .tup [.int 3, .int 4]]) hb (by omega) (by decide) (by decide)
  have hp : ∃ p : Rat, d = vq p ∧ 0 ≤ p ∧ p ≤ 1 ∧ Ht p 3 ∧ Dv 12 12 p ∧ p ∈ p7 := by
    have key : ∀ (n : Int) (m : Nat) (q : Rat), q.num = n → q.den = m → n.natAbs < 8 → m < 8 → D.tup [.int n, .int (m : Int)] = vq q ∧ Ht q 3 := fun n m q e1 e2 g1 g2 => ⟨by unfold vq; rw [e1, e2], ht_of q e1 e2 g1 g2⟩
    simp only [List.mem_cons, List.not_mem_nil, or_false] at c2
    rcases c2 with rfl | rfl | rfl | rfl | rfl | rfl | rfl
    · obtain ⟨e, g⟩ := key 0 1 0 (by decide +kernel) (by decide +kernel) (by decide) (by decide)
      exact ⟨0, e, by decide +kernel, by decide +kernel, g, ⟨by decide, 0, by decide +kernel, by decide⟩, by decide +kernel⟩
    · obtain ⟨e, g⟩ := key 1 1 1 (by decide +kernel) (by decide +kernel) (by decide) (by decide)
      exact ⟨1, e, by decide +kernel, by decide +kernel, g, ⟨by decide, 12, by decide +kernel, by decide⟩, by decide +kernel⟩
    · obtain ⟨e, g⟩ := key 1 2 (1 / 2) (by decide +kernel) (by decide +kernel) (by decide) (by decide)
      exact ⟨1 / 2, e, by decide +kernel, by decide +kernel, g, ⟨by decide, 6, by decide +kernel, by decide⟩, by decide +kernel⟩
    · obtain ⟨e, g⟩ := key 1 3 (1 / 3) (by decide +kernel) (by decide +kernel) (by decide) (by decide)
      exact ⟨1 / 3, e, by decide +kernel, by decide +kernel, g, ⟨by decide, 4, by decide +kernel, by decide⟩, by decide +kernel⟩
    · obtain ⟨e, g⟩ := key 2 3 (2 / 3) (by decide +kernel) (by decide +kernel) (by decide) (by decide)
      exact ⟨2 / 3, e, by decide +kernel, by decide +kernel, g, ⟨by decide, 8, by decide +kernel, by decide⟩, by decide +kernel⟩
    · obtain ⟨e, g⟩ := key 1 4 (1 / 4) (by decide +kernel) (by decide +kernel) (by decide) (by decide)
      exact ⟨1 / 4, e, by decide +kernel, by decide +kernel, g, ⟨by decide, 3, by decide +kernel, by decide⟩, by decide +kernel⟩
    · obtain ⟨e, g⟩ := key 3 4 (3 / 4) (by decide +kernel) (by decide +kernel) (by decide) (by decide)
      exact ⟨3 / 4, e, by decide +kernel, by decide +kernel, g, ⟨by decide, 9, by decide +kernel, by decide⟩, by decide +kernel⟩
  obtain ⟨p, rfl, p0, p1, p3, p4, p5⟩ := hp
  have hw := h2.sub h1
  have hm := p3.mul hw
  have hq := h1.add hm
  refine ⟨lo + p * (hi - lo), b1, ?_, hq.up (by decide), ?_, ?_, c3, ((hv.scale (m := 6) (by decide)).add (p4.mul hv2)).up (by decide), p, p5, rfl⟩
  · refine runB_st rfl ?_
    refine sb_nx (G1 := [.bx b1, .im (vq lo), .im (vq hi), .im (vq p)]) (by exact xset_e (xcallB_ok rfl (xcw (xlst_ok (xc1 rfl (xc1 rfl (xc1 rfl (xc1 rfl (xc1 rfl (xc1 rfl (xc1 rfl xnil_ok))))))) rfl) xnil_ok) rfl rfl c1 rfl) rfl) ?_
    exact sb_ret (G1 := [.im (vq lo), .im (vq hi), .im (vq p)]) (by exact xcall_ok (xc1 rfl (xc1 (xcall_ok (xc1 rfl (xc1 (xcall_ok (xc1 rfl (xc1 rfl xnil_ok)) (v_w_minus h2 h1 (by decide))) xnil_ok)) (v_w_times p3 hw (by decide))) xnil_ok)) (v_w_plus h1 hm (by decide)))
  · have : 0 ≤ p * (hi - lo) := Rat.mul_nonneg p0 (by grind)
    grind
  · have : 0 ≤ (1 - p) * (hi - lo) := Rat.mul_nonneg (by grind) (by grind)
    grind
theorem v_w_point {c : Nat} {bs : Mob} {lo hi : Rat} (hb : Bw c bs) (hc : c < 900000) (h1 : Ht lo 4) (h2 : Ht hi 8) (hl : lo < hi) (hv : Dv 12 180 lo) (hv2 : Dv 6 12 (hi - lo)) : ∃ q bs', r_w_point bs [vq lo, vq hi] = some (.im (vq q), bs') ∧ Ht q 21 ∧ lo ≤ q ∧ q ≤ hi ∧ Bw (c + 1) bs' ∧ Dv 72 1300 q := by
  obtain ⟨q, bs', h1, h2, h3, h4, h5, h6, _⟩ := v_w_pointP hb hc h1 h2 hl hv hv2
  exact ⟨q, bs', h1, h2, h3, h4, h5, h6⟩
theorem insU_flt (x : Rat) : ∀ {l : List Rat}, l.Pairwise (· < ·) → insU x l = if x ∈ l then l else l.filter (fun y => decide (y < x)) ++ [x] ++ l.drop (cntL x l)
  | [], _ => rfl
  | y :: r, h => by
    have h1 := List.pairwise_cons.mp h
    have ih := insU_flt x h1.2
    by_cases h2 : x < y
    · have e : cntL x (y :: r) = 0 := cntL_zero fun z hz => by
        rcases List.mem_cons.mp hz with rfl | hz
        · grind
        · have := h1.1 z hz; grind
      have ef : (y :: r).filter (fun y => decide (y < x)) = [] := List.filter_eq_nil_iff.mpr fun z hz => by
        have : ¬ z < x := by
          rcases List.mem_cons.mp hz with rfl | hz
          · grind
          · have := h1.1 z hz; grind
        simpa using this
      have hm : x ∉ y :: r := fun hm => by
        rcases List.mem_cons.mp hm with e | hm
        · grind
        · have := h1.1 x hm; grind
      rw [if_neg hm, ef, e]
      unfold insU
      rw [if_pos h2]
      rfl
    · by_cases h3 : x = y
      · rw [if_pos (by rw [h3]; exact List.mem_cons_self)]
        unfold insU
        rw [if_neg h2, if_pos h3]
      · have hlt : y < x := by grind
        have e : cntL x (y :: r) = cntL x r + 1 := by
          unfold cntL
          rw [List.filter_cons, if_pos (by simpa using hlt), List.length_cons]
        have ef : (y :: r).filter (fun z => decide (z < x)) = y :: r.filter (fun z => decide (z < x)) := by
          rw [List.filter_cons, if_pos (by simpa using hlt)]
        unfold insU
        rw [if_neg h2, if_neg h3, ih, e, ef, List.drop_succ_cons]
        by_cases hm : x ∈ r
        · rw [if_pos hm, if_pos (List.mem_cons_of_mem _ hm)]
        · rw [if_neg hm, if_neg (by simp [h3, hm])]
          rfl
theorem cut_from (xs : List D) (n : Nat) : cutD xs (some (n : Int)) none = xs.drop n := by
  unfold cutD
  rw [HT.sIx_none, HT.sIx_nat]
  by_cases h : n ≤ xs.length
  · rw [Nat.min_eq_left h, List.take_of_length_le (by rw [List.length_drop]; omega)]
  · rw [Nat.min_eq_right (by omega), List.drop_eq_nil_of_le (Nat.le_refl _), List.drop_eq_nil_of_le (by omega), List.take_nil]
theorem eqv_pyq (a b : Rat) : PyData.eqv (pyq a) (pyq b) = decide (a = b) := by
  have h := eqv_vq a b
  rw [show eqD (vq a) (vq b) = some (PyData.eqv (pyq a) (pyq b)) from rfl] at h
  exact Option.some.inj h
theorem any_pyq (x : Rat) (l : List Rat) : (l.map pyq).any (fun z => PyData.eqv z (pyq x)) = decide (x ∈ l) := by
  induction l with
  | nil => rfl
  | cons y l ih =>
    rw [List.map_cons, List.any_cons, ih, eqv_pyq]
    by_cases h : y = x
    · subst h; simp
    · have : ¬ x = y := fun e => h e.symm
      simp [h, this]
theorem in_qs {k : Nat} (hk : 8 ≤ k) (h9 : k < 1900) {l : List Rat} (h : ∀ q ∈ l, Ht q k) (x : Rat) (neg : Bool) : opInB neg (vq x) (.lst (l.map vq)) = some (.im (.bl (if neg then !decide (x ∈ l) else decide (x ∈ l)))) := by
  obtain ⟨_, _, _, h4, _, h6⟩ := pyq_ok hk h9 h
  have e : toPy (.lst (l.map vq)) = some (.list (l.map pyq)) := by
    rw [toPy, toPys_vq]
    rfl
  have s1 : SeqAt.shaped (.list (l.map pyq)) = true := by
    unfold SeqAt.shaped
    rw [Bool.and_eq_true]
    refine ⟨by rw [PyData.canLay0]; exact h6, decide_eq_true ?_⟩
    rw [PyData.depth]
    omega
  have s2 : SeqAt.shaped (pyq x) = true := by
    unfold SeqAt.shaped
    simp [pyq, PyData.canLay0, PyData.canLayAll0, PyData.depth, PyData.depthAll]
  unfold opInB
  rw [show opIn neg (vq x) (.lst (l.map vq)) = none from rfl]
  simp only [e, show toPy (vq x) = some (pyq x) from rfl, s1, s2, Bool.and_self, if_true, any_pyq]
theorem rs_loop {x0 : Ent} {k : Nat} (hk8 : 8 ≤ k) (hk9 : k < 1900) : ∀ (l acc : List Rat) (e1 e2 e3 : Ent), (e1 = .ol (acc.map vq) ∨ e1 = .im (.lst (acc.map vq))) → acc.Pairwise (· < ·) → (∀ q ∈ l, Ht q k) → (∀ q ∈ acc, Ht q k) → acc.length + l.length ≤ 90000 →
    ∃ e1' e2' e3', (e1' = .ol ((insAll l acc).map vq) ∨ e1' = .im (.lst ((insAll l acc).map vq))) ∧ xforL (tgn 2) b_w_rising_1 (l.map vq) [x0, e1, e2, e3, .un] = some (.nx, [x0, e1', e2', e3', .un])
  | [], acc, e1, e2, e3, h1, _, _, _, _ => ⟨e1, e2, e3, h1, rfl⟩
  | x :: l, acc, e1, e2, e3, h1, hs, hl, ha, hn => by
    have hx := hl x List.mem_cons_self
    rw [List.length_cons] at hn
    have hal : (insU x acc).length ≤ acc.length + 1 := insU_len x acc
    have v1 : xv 1 [x0, e1, .im (vq x), e3, .un] = some (.im (.lst (acc.map vq)), [x0, .im (.lst (acc.map vq)), .im (vq x), e3, .un]) := by rcases h1 with rfl | rfl <;> rfl
    have c1 : xlc (xseqI (xv 1)) (tgn 4) (xtru (xcall r_w_less (xcons (xv 4) (xcons (xv 2) xnil)))) (xv 4) [4] [x0, e1, .im (vq x), e3, .un] = some (.ol ((acc.filter fun y => decide (y < x)).map vq), [x0, .im (.lst (acc.map vq)), .im (vq x), e3, .un]) := by
      refine xlc_un (xseqI_ok v1 rfl) rfl rfl rfl (xlcL_fm (fun y : Rat => decide (y < x)) vq fun y hy => ?_) (by rw [List.length_map]; have := List.length_filter_le (fun y : Rat => decide (y < x)) acc; omega)
      exact ⟨[x0, .im (.lst (acc.map vq)), .im (vq x), e3, .im (vq y)], _, rfl, xtrub (by exact xcall_ok (xc1 rfl (xc1 rfl xnil_ok)) (v_w_less (ha y hy) hx (by omega))), fun _ => rfl, fun _ => ⟨_, _, rfl, rfl, rfl⟩⟩
    have t1 : xtest (xop (opInB true) (xv 2) (xv 1)) [x0, .im (.lst (acc.map vq)), .im (vq x), .ol ((acc.filter fun y => decide (y < x)).map vq), .un] = some (!decide (x ∈ acc), [x0, .im (.lst (acc.map vq)), .im (vq x), .ol ((acc.filter fun y => decide (y < x)).map vq), .un]) :=
      xtest_ok (xo2 rfl rfl (in_qs hk8 hk9 ha x true))
    have hi := insU_flt x hs
    have hs2 := insU_sorted (x := x) hs
    have ha2 : ∀ q ∈ insU x acc, Ht q k := fun q hq => by
      rcases mem_insU.mp hq with rfl | h
      · exact hx
      · exact ha q h
    have step : ∃ e1' e3', (e1' = .ol ((insU x acc).map vq) ∨ e1' = .im (.lst ((insU x acc).map vq))) ∧ b_w_rising_1 [x0, e1, .im (vq x), e3, .un] = some (.nx, [x0, e1', .im (vq x), e3', .un]) := by
      unfold b_w_rising_1
      rw [xseq_nx (show _ = some (Fl.nx, [x0, .im (.lst (acc.map vq)), .im (vq x), .ol ((acc.filter fun y => decide (y < x)).map vq), .un]) from xset_e c1 rfl), xifs_ok t1]
      by_cases hm : x ∈ acc
      · rw [if_pos hm] at hi
        rw [decide_eq_true hm, hi]
        exact ⟨_, _, .inr rfl, rfl⟩
      · rw [if_neg hm] at hi
        rw [decide_eq_false hm, hi]
        have hcf : cntL x acc = (acc.filter fun y => decide (y < x)).length := rfl
        have hfl : (acc.filter fun y => decide (y < x)).length ≤ acc.length := List.length_filter_le _ _
        have o1 : opAddB (.lst ((acc.filter fun y => decide (y < x)).map vq)) (.lst [vq x]) = some (.ol ((acc.filter fun y => decide (y < x)).map vq ++ [vq x])) := by
          show (if few (((acc.filter fun y => decide (y < x)).map vq).length + 1) then some (R.ol ((acc.filter fun y => decide (y < x)).map vq ++ [vq x])) else none) = _
          rw [fewl (by rw [List.length_map]; omega)]
          rfl
        have o2 : opAddB (.lst ((acc.filter fun y => decide (y < x)).map vq ++ [vq x])) (.lst ((acc.map vq).drop (cntL x acc))) = some (.ol (((acc.filter fun y => decide (y < x)).map vq ++ [vq x]) ++ (acc.map vq).drop (cntL x acc))) := by
          show (if few (((acc.filter fun y => decide (y < x)).map vq ++ [vq x]).length + ((acc.map vq).drop (cntL x acc)).length) then some (R.ol (((acc.filter fun y => decide (y < x)).map vq ++ [vq x]) ++ (acc.map vq).drop (cntL x acc))) else none) = _
          rw [fewl (by rw [List.length_append, List.length_map, List.length_drop, List.length_map, List.length_singleton]; omega)]
          rfl
        have l1 : cbLen [.lst ((acc.filter fun y => decide (y < x)).map vq)] = some (.im (.int (cntL x acc : Nat))) := by
          show some (R.im (.int (((acc.filter fun y => decide (y < x)).map vq).length : Nat))) = _
          rw [List.length_map]
          rfl
        have s1 : xsl slB (xv 1) (xpart (xcb cbLen (xcons (xv 3) xnil))) xnop [x0, .im (.lst (acc.map vq)), .im (vq x), .im (.lst ((acc.filter fun y => decide (y < x)).map vq)), .un] = some (.ol ((acc.map vq).drop (cntL x acc)), [x0, .im (.lst (acc.map vq)), .im (vq x), .im (.lst ((acc.filter fun y => decide (y < x)).map vq)), .un]) := by
          have p1 : xpart (xcb cbLen (xcons (xv 3) xnil)) [x0, .im (.lst (acc.map vq)), .im (vq x), .im (.lst ((acc.filter fun y => decide (y < x)).map vq)), .un] = some (some ((cntL x acc : Nat) : Int), [x0, .im (.lst (acc.map vq)), .im (vq x), .im (.lst ((acc.filter fun y => decide (y < x)).map vq)), .un]) := by
            unfold xpart
            rw [xcb_ok (xc1 rfl xnil_ok) l1]
            rfl
          refine xsl_ok (x := .im (.lst (acc.map vq))) (j := none) rfl p1 rfl ?_
          show some (R.ol (cutD (acc.map vq) (some ((cntL x acc : Nat) : Int)) none)) = _
          rw [cut_from]
        refine ⟨.ol ((acc.filter (fun y => decide (y < x)) ++ [x] ++ acc.drop (cntL x acc)).map vq), .im (.lst ((acc.filter fun y => decide (y < x)).map vq)), .inl rfl, ?_⟩
        refine xset_e (xop_ok (xop_ok (x := .im (.lst ((acc.filter fun y => decide (y < x)).map vq))) (y := .ol [vq x]) rfl rfl o1) s1 o2) ?_
        rw [List.map_append, List.map_append, List.map_drop]
        rfl
    obtain ⟨e1', e3', he, hstep⟩ := step
    obtain ⟨f1, f2, f3, hf, ih⟩ := rs_loop (x0 := x0) hk8 hk9 l (insU x acc) e1' (.im (vq x)) e3' he hs2 (fun q hq => hl q (List.mem_cons_of_mem _ hq)) ha2 (by omega)
    exact ⟨f1, f2, f3, hf, (xforL_nx (G1 := [x0, e1, .im (vq x), e3, .un]) rfl hstep).trans ih⟩
theorem v_w_rising {d : D} {l : List Rat} {k : Nat} (hd : seqD d = some (l.map vq)) (hl : ∀ q ∈ l, Ht q k) (h8 : 8 ≤ k) (h9 : k < 1900) (hf : l.length ≤ 90000) : ∃ r, r_w_rising [d] = some r ∧ r.d = .lst ((asc l).map vq) ∧ (r = .ol ((asc l).map vq) ∨ r = .im (.lst ((asc l).map vq))) := by
  obtain ⟨e1, e2, e3, he, h1⟩ := rs_loop (x0 := .im d) h8 h9 l [] (.ol []) .un .un (.inl rfl) .nil hl (by simp) (by simpa using hf)
  rw [insAll_asc] at he
  rcases he with rfl | rfl
  · refine ⟨_, runF_st rfl ?_, rfl, .inl rfl⟩
    refine st_nx (G1 := [.im d, .ol [], .un, .un, .un]) (by rfl) ?_
    refine st_nx (by exact xfor_ok (xseqI_ok rfl hd) h1) ?_
    exact st_ret rfl
  · refine ⟨.im (.lst ((asc l).map vq)), runF_st rfl ?_, rfl, .inr rfl⟩
    refine st_nx (G1 := [.im d, .ol [], .un, .un, .un]) (by rfl) ?_
    refine st_nx (by exact xfor_ok (xseqI_ok rfl hd) h1) ?_
    exact st_ret rfl
theorem v_w_pointsP {c : Nat} {bs : Mob} {lo hi : Rat} {m : Int} (hb : Bw c bs) (hc : c < 100000) (hm : 0 < m) (hm9 : m ≤ 6) (h1 : Ht lo 4) (h2 : Ht hi 8) (hl : lo < hi) (hv : Dv 12 180 lo) (hv2 : Dv 6 12 (hi - lo)) :
    ∃ r bs', ∃ pts : List Rat, r_w_points bs [vq lo, vq hi, .int m] = some (r, bs') ∧ (r = .ol (pts.map vq) ∨ r = .im (.lst (pts.map vq))) ∧ Bw (c + 10) bs' ∧ pts.Pairwise (· < ·) ∧ (∀ p ∈ pts, (Dv 72 1300 p ∧ lo ≤ p ∧ p ≤ hi) ∧ ∃ t ∈ p7, p = lo + t * (hi - lo)) ∧ 0 < pts.length ∧ pts.length ≤ m.toNat := by
  obtain ⟨i, b1, d1, d2, d3, hb1⟩ := v_w_choose hb (by omega) hm (by omega)
  obtain ⟨out, G', k1, ⟨b2, hb2, rfl⟩, k3, k4⟩ := xlcL_exm (tg := tgn 5) (e := xcallB r_w_point 0 (xcons (xv 1) (xcons (xv 2) xnil))) (vs := [5])
    (fun n G => ∃ bs, Bw (c + 1 + n) bs ∧ G = [Ent.bx bs, .im (vq lo), .im (vq hi), .im (.int m), .un, .un]) (fun d => ∃ q : Rat, d = vq q ∧ (Ht q 21 ∧ lo ≤ q ∧ q ≤ hi ∧ Dv 72 1300 q ∧ ∃ t ∈ p7, q = lo + t * (hi - lo))) 6
    (ds := rng 0 (1 + i).toNat) (n := 0) (G := [.bx b1, .im (vq lo), .im (vq hi), .im (.int m), .un, .un]) ⟨b1, hb1, rfl⟩ (by
      rintro d' - n' hn' G ⟨b, hb, rfl⟩
      obtain ⟨q, b3, q1, q2, q3, q4, hb3, q5, q6⟩ := v_w_pointP hb (by omega) h1 h2 hl hv hv2
      exact ⟨_, _, _, rfl, xcallB_ok rfl (xc1 rfl (xc1 rfl xnil_ok)) rfl rfl q1 rfl, ⟨q, rfl, q2, q3, q4, q5, q6⟩, b3, hb3, rfl⟩) (by rw [rng_ln]; omega)
  rw [rng_ln] at hb2
  obtain ⟨qs, rfl, hqs⟩ := enc_of k3
  rw [List.length_map, rng_ln] at k4
  have k4 : qs.length = (1 + i).toNat := k4
  obtain ⟨r, r1, r2, r3⟩ := v_w_rising (d := .lst (qs.map vq)) (l := qs) (k := 21) rfl (fun q hq => (hqs q hq).1) (by decide) (by decide) (by omega)
  have a1 : xlc (xrange1 (xcons (xop opAddB (xc (.int 1)) (xcallB r_w_choose 0 (xcons (xv 3) xnil))) xnil)) (tgn 5) xtyes (xcallB r_w_point 0 (xcons (xv 1) (xcons (xv 2) xnil))) [5] [.bx bs, .im (vq lo), .im (vq hi), .im (.int m), .un, .un] =
      some (.ol (qs.map vq), [.bx b2, .im (vq lo), .im (vq hi), .im (.int m), .un, .un]) :=
    xlc_ok (vs := [5]) (out := qs.map vq) (ds := rng 0 (1 + i).toNat) (G1 := [.bx b1, .im (vq lo), .im (vq hi), .im (.int m), .un, .un]) (G2 := [.bx b2, .im (vq lo), .im (vq hi), .im (.int m), .un, .un]) (xrange1_ok (n := 1 + i) (xc1 (xo2 rfl (xcallB_ok rfl (xc1 rfl xnil_ok) rfl rfl d1 rfl) rfl) xnil_ok) (okR_of (by omega) (by omega))) rfl k1 (fewl (by rw [List.length_map]; omega))
  have hlen := asc_len qs
  refine ⟨r, b2, asc qs, ?_, r3, hb2.up (by omega), asc_sorted qs, fun p hp => ?_, ?_, by omega⟩
  · refine runB_st rfl ?_
    refine sb_nx (by exact xset_e a1 rfl) ?_
    rcases r3 with rfl | rfl
    · exact sb_ret (G1 := [.im (vq lo), .im (vq hi), .im (.int m), .im (.lst (qs.map vq)), .un]) (by exact xcall_ok (xc1 rfl xnil_ok) r1)
    · exact sb_ret (G1 := [.im (vq lo), .im (vq hi), .im (.int m), .im (.lst (qs.map vq)), .un]) (by exact xcall_ok (xc1 rfl xnil_ok) r1)
  · obtain ⟨x1, x2, x3, x4, x5⟩ := hqs p (mem_asc.mp hp)
    exact ⟨⟨x4, x2, x3⟩, x5⟩
  · match qs, k4 with
    | [], h => exact absurd h (by simp only [List.length_nil]; omega)
    | q :: t, _ => exact List.length_pos_of_mem (mem_asc.mpr (List.mem_cons_self (a := q) (l := t)))
theorem v_w_points {c : Nat} {bs : Mob} {lo hi : Rat} {m : Int} (hb : Bw c bs) (hc : c < 100000) (hm : 0 < m) (hm9 : m ≤ 6) (h1 : Ht lo 4) (h2 : Ht hi 8) (hl : lo < hi) (hv : Dv 12 180 lo) (hv2 : Dv 6 12 (hi - lo)) :
    ∃ r bs', ∃ pts : List Rat, r_w_points bs [vq lo, vq hi, .int m] = some (r, bs') ∧ (r = .ol (pts.map vq) ∨ r = .im (.lst (pts.map vq))) ∧ Bw (c + 10) bs' ∧ pts.Pairwise (· < ·) ∧ (∀ p ∈ pts, Dv 72 1300 p ∧ lo ≤ p ∧ p ≤ hi) ∧ 0 < pts.length ∧ pts.length ≤ m.toNat := by
  obtain ⟨r, bs', pts, h1, h2, h3, h4, h5, h6, h7⟩ := v_w_pointsP hb hc hm hm9 h1 h2 hl hv hv2
  exact ⟨r, bs', pts, h1, h2, h3, h4, fun p hp => (h5 p hp).1, h6, h7⟩
theorem v_w_seed {ns : List Int} {k : Int} (hk : 0 ≤ k) (hk9 : k < 64) : ∃ bs, r_w_seed [.frz (ns.map .int), .int k] = some (.ow bs) ∧ Bw 0 bs := by
  have hlen : cbLen [.frz (ns.map .int)] = some (.im (.int ns.length)) := by
    show some (R.im (.int (((ns.map D.int).length : Nat) : Int))) = _
    rw [List.length_map]
  have t1 : xtest (xop opLt (xv 1) (xcb cbLen (xcons (xv 0) xnil))) [.im (.frz (ns.map .int)), .im (.int k), .un, .un, .un] = some (decide (k < (ns.length : Int)), [.im (.frz (ns.map .int)), .im (.int k), .un, .un, .un]) := xtest_ok (xo2 rfl (xcb_ok (xc1 rfl xnil_ok) hlen) rfl)
  have s1 : ∃ c : Int, xset 2 (xif (xtest (xop opLt (xv 1) (xcb cbLen (xcons (xv 0) xnil)))) (xcb cbAbs (xcons (xcb cbInt (xcons (xop opIx (xv 0) (xv 1)) xnil)) xnil)) (xc (.int 0))) [.im (.frz (ns.map .int)), .im (.int k), .un, .un, .un] = some (.nx, [.im (.frz (ns.map .int)), .im (.int k), .im (.int c), .un, .un]) := by
    by_cases h : k < (ns.length : Int)
    · rw [decide_eq_true h] at t1
      obtain ⟨x, hx, hm⟩ := atI_ok (xs := ns.map D.int) (i := k) hk (by rw [List.length_map]; exact h)
      obtain ⟨c, _, rfl⟩ := List.mem_map.mp hm
      have hc : opIx (.frz (ns.map .int)) (.int k) = some (.im (.int c)) := by
        show (atI (ns.map D.int) k).map R.im = _
        rw [hx]
        rfl
      exact ⟨_, xset_e ((xif_ok t1).trans (xcb_ok (xc1 (xcb_ok (xc1 (xo2 rfl rfl hc) xnil_ok) rfl) xnil_ok) rfl)) rfl⟩
    · rw [decide_eq_false h] at t1
      exact ⟨0, xset_e ((xif_ok t1).trans rfl) rfl⟩
  obtain ⟨c, s1⟩ := s1
  have o1 : okMul 7919 k = true := Sm.okMul (k := 13) (l := 7) (by unfold Sm; decide) (by unfold Sm; omega) (by decide)
  have s2 : xset 3 (xop opAddB (xc (.int 50331653)) (xop opMul (xc (.int 7919)) (xv 1))) [.im (.frz (ns.map .int)), .im (.int k), .im (.int c), .un, .un] = some (.nx, [.im (.frz (ns.map .int)), .im (.int k), .im (.int c), .im (.int (50331653 + 7919 * k)), .un]) := xset_e (xo2 rfl (xo2 rfl rfl (if_pos o1)) rfl) rfl
  obtain ⟨G', g1, r, e4, hr0, hr9, rfl⟩ := xforL_inv (tg := tgn 4) (b := b_w_seed_1) (fun G => ∃ (r : Int) (e4 : Ent), 0 ≤ r ∧ r < 2147483648 ∧ G = [.im (.frz (ns.map .int)), .im (.int k), .im (.int c), .im (.int r), e4])
    (ds := cutD (ns.map D.int) none (some 56)) (G := [.im (.frz (ns.map .int)), .im (.int k), .im (.int c), .im (.int (50331653 + 7919 * k)), .un]) ⟨_, _, by omega, by omega, rfl⟩ (fun d hd G hG => by
      obtain ⟨r, e4, hr0, hr9, rfl⟩ := hG
      have hd' : d ∈ ns.map D.int := by
        unfold cutD at hd
        exact List.mem_of_mem_drop (List.mem_of_mem_take hd)
      obtain ⟨z, _, rfl⟩ := List.mem_map.mp hd'
      have om : okMul r 48271 = true := Sm.okMul (k := 33) (l := 17) (by unfold Sm; omega) (by unfold Sm; decide) (by decide)
      have b1 := fmod_lt (if z < 0 then -z else z) (b := 2147483629) (by decide)
      have b2 := fmod_lt (r * 48271 + (if z < 0 then -z else z).fmod 2147483629 + 19) (b := 2147483647) (by decide)
      refine ⟨_, _, rfl, .inl ?_, (r * 48271 + (if z < 0 then -z else z).fmod 2147483629 + 19).fmod 2147483647, .im (.int z), b2.1, by omega, rfl⟩
      unfold b_w_seed_1
      exact xset_e (xo2 (xcb_ok (xc1 (xo2 (xo2 (xo2 rfl rfl (if_pos om)) (xo2 (xcb_ok (xc1 (xcb_ok (xc1 rfl xnil_ok) rfl) xnil_ok) rfl) rfl (o_mod (by decide))) rfl) rfl rfl) xnil_ok) rfl) rfl (o_mod (by decide))) rfl)
  have c4 : xseqI (xsl slB (xv 0) xnop (xpart (xc (.int 56)))) [.im (.frz (ns.map .int)), .im (.int k), .im (.int c), .im (.int (50331653 + 7919 * k)), .un] = some (cutD (ns.map D.int) none (some 56), [.im (.frz (ns.map .int)), .im (.int k), .im (.int c), .im (.int (50331653 + 7919 * k)), .un]) :=
    xseqR_ok (xsl_ok (i := none) (j := some 56) rfl rfl rfl rfl) rfl
  have e3 : xif (xtest (xop opGe (xv 2) (xop opPow (xc (.int 10)) (xc (.int 18))))) (xv 2) (xc (.int 0)) [.im (.frz (ns.map .int)), .im (.int k), .im (.int c), .im (.int r), e4] = some (.im (.int (if 10 ^ 18 ≤ c then c else 0)), [.im (.frz (ns.map .int)), .im (.int k), .im (.int c), .im (.int r), e4]) := by
    have t : xtest (xop opGe (xv 2) (xop opPow (xc (.int 10)) (xc (.int 18)))) [.im (.frz (ns.map .int)), .im (.int k), .im (.int c), .im (.int r), e4] = some (decide ((10 : Int) ^ 18 ≤ c), [.im (.frz (ns.map .int)), .im (.int k), .im (.int c), .im (.int r), e4]) := xtest_ok (xo2 rfl (xo2 rfl rfl (o_pow (by decide))) rfl)
    by_cases h : (10 : Int) ^ 18 ≤ c
    · rw [decide_eq_true h] at t
      rw [if_pos h]
      exact (xif_ok t).trans rfl
    · rw [decide_eq_false h] at t
      rw [if_neg h]
      exact (xif_ok t).trans rfl
  refine ⟨.l [.int (if 10 ^ 18 ≤ c then c else 0), .int r, .int 0], ?_, ⟨_, _, _, rfl, hr0, by omega, by decide, by decide⟩⟩
  refine runF_st rfl ?_
  refine st_nx (by exact s1) ?_
  refine st_nx (by exact s2) ?_
  refine st_nx (by exact xfor_ok c4 g1) ?_
  exact st_ret (by exact xlst_ok (xc1 e3 (xc1 rfl (xc1 rfl xnil_ok))) rfl)
theorem frac_dv {a d : Int} (ha : a.natAbs ≤ 15) (h0 : 0 < d) (h4 : d ≤ 4) : Dv 12 180 (Rat.divInt a d) := by
  have hd : d ∣ ((12 : Nat) : Int) := by
    have : d = 1 ∨ d = 2 ∨ d = 3 ∨ d = 4 := by omega
    rcases this with rfl | rfl | rfl | rfl <;> decide
  have h1 : Dv 1 15 (a : Rat) := ⟨by decide, a, by show (a : Rat) * 1 = _; grind, ha⟩
  rw [Rat.divInt_eq_div]
  exact h1.part (M := 12) (by decide) (by omega) hd
theorem v_w_fraction {c : Nat} {bs : Mob} {m w : Int} (hb : Bw c bs) (hc : c < 900000) (hm : 0 < m) (hm9 : m ≤ 15) (hw : 0 < w) (hw9 : w ≤ 4) : ∃ q bs', r_w_fraction bs [.int m, .int w] = some (.im (vq q), bs') ∧ Ht q 4 ∧ Bw (c + 2) bs' ∧ Dv 12 180 q := by
  obtain ⟨i, b1, c1, c2, c3, c4⟩ := v_w_choose (m := 2 * m + 1) hb (by omega) (by omega) (by omega)
  obtain ⟨j, b2, d1, d2, d3, d4⟩ := v_w_choose (m := w) c4 (by omega) (by omega) (by omega)
  have om : okMul 2 m = true := Sm.okMul (k := 2) (l := 4) (by unfold Sm; decide) (by unfold Sm; omega) (by decide)
  have s1 : Sm (i - m) 4 := by unfold Sm; omega
  by_cases h15 : j + 1 ≤ 15
  · have s2 : Sm (1 + j) 4 := by unfold Sm; omega
    refine ⟨Rat.divInt (i - m) (1 + j), b2, ?_, ht_divInt (by omega) s1 s2, d4, frac_dv (by omega) (by omega) (by omega)⟩
    refine runB_st rfl ?_
    exact sb_ret (G1 := [.im (.int m), .im (.int w)]) (by exact xcall_ok (xc1 (xo2 (xcallB_ok rfl (xc1 (xo2 (xo2 rfl rfl (if_pos om)) rfl rfl) xnil_ok) rfl rfl c1 rfl) rfl rfl) (xc1 (xo2 rfl (xcallB_ok rfl (xc1 rfl xnil_ok) rfl rfl d1 rfl) rfl) xnil_ok)) (v_w_lowest (by omega) s2 (by decide)))
  · omega
theorem v_w_stretch {c : Nat} {bs : Mob} (hb : Bw c bs) (hc : c < 800000) : ∃ lo hi bs', r_w_stretch bs [] = some (.im (.tup [vq lo, vq hi]), bs') ∧ Bw (c + 3) bs' ∧ Ht lo 4 ∧ Ht hi 8 ∧ lo < hi ∧ Dv 12 180 lo ∧ Dv 6 12 (hi - lo) := by
  obtain ⟨lo, b1, c1, c2, c3, c4⟩ := v_w_fraction (m := 3) (w := 3) hb (by omega) (by decide) (by decide) (by decide) (by decide)
  obtain ⟨d, b2, d1, d2, d3⟩ := v_w_one_of (xs := [.tup [.int 1, .int 1], .tup [.int 1, .int 1], .tup [.int 2, .int 1], .tup [.int 1, .int 2], .tup [.int 3, .int 2], .tup [.int 4, .int 3]]) c3 (by omega) (by decide) (by decide)
  have hp : ∃ p : Rat, d = vq p ∧ 0 < p ∧ Ht p 3 ∧ Dv 6 12 p := by
    have key : ∀ (n : Int) (m : Nat) (q : Rat), q.num = n → q.den = m → n.natAbs < 8 → m < 8 → D.tup [.int n, .int (m : Int)] = vq q ∧ Ht q 3 := fun n m q e1 e2 g1 g2 => ⟨by unfold vq; rw [e1, e2], ht_of q e1 e2 g1 g2⟩
    simp only [List.mem_cons, List.not_mem_nil, or_false] at d2
    rcases d2 with rfl | rfl | rfl | rfl | rfl | rfl
    · obtain ⟨e, g⟩ := key 1 1 1 (by decide +kernel) (by decide +kernel) (by decide) (by decide)
      exact ⟨1, e, by decide +kernel, g, ⟨by decide, 6, by decide +kernel, by decide⟩⟩
    · obtain ⟨e, g⟩ := key 1 1 1 (by decide +kernel) (by decide +kernel) (by decide) (by decide)
      exact ⟨1, e, by decide +kernel, g, ⟨by decide, 6, by decide +kernel, by decide⟩⟩
    · obtain ⟨e, g⟩ := key 2 1 2 (by decide +kernel) (by decide +kernel) (by decide) (by decide)
      exact ⟨2, e, by decide +kernel, g, ⟨by decide, 12, by decide +kernel, by decide⟩⟩
    · obtain ⟨e, g⟩ := key 1 2 (1 / 2) (by decide +kernel) (by decide +kernel) (by decide) (by decide)
      exact ⟨1 / 2, e, by decide +kernel, g, ⟨by decide, 3, by decide +kernel, by decide⟩⟩
    · obtain ⟨e, g⟩ := key 3 2 (3 / 2) (by decide +kernel) (by decide +kernel) (by decide) (by decide)
      exact ⟨3 / 2, e, by decide +kernel, g, ⟨by decide, 9, by decide +kernel, by decide⟩⟩
    · obtain ⟨e, g⟩ := key 4 3 (4 / 3) (by decide +kernel) (by decide +kernel) (by decide) (by decide)
      exact ⟨4 / 3, e, by decide +kernel, g, ⟨by decide, 8, by decide +kernel, by decide⟩⟩
  obtain ⟨w, rfl, w0, w3, w4⟩ := hp
  refine ⟨lo, lo + w, b2, ?_, d3, c2, (c2.add w3).up (by decide), by grind, c4, by rw [show lo + w - lo = w by grind]; exact w4⟩
  refine runB_st rfl ?_
  refine sb_nx (G1 := [.bx b1, .im (vq lo)]) (by exact xset_e (xcallB_ok rfl (xc1 rfl (xc1 rfl xnil_ok)) rfl rfl c1 rfl) rfl) ?_
  exact sb_ret (G1 := [.im (vq lo)]) (by exact xtup_ok (xc1 rfl (xc1 (xcall_ok (xc1 rfl (xc1 (xcallB_ok rfl (xcw (xlst_ok (xc1 rfl (xc1 rfl (xc1 rfl (xc1 rfl (xc1 rfl (xc1 rfl xnil_ok)))))) rfl) xnil_ok) rfl rfl d1 rfl) xnil_ok)) (v_w_plus c2 w3 (by decide))) xnil_ok)) rfl)
end Bk
namespace Bk
open PySem L2
/-- told no value, by the package and by the law -/
structure NoV (d : D) : Prop where
  p : r_is_value [d] = some (.im (.bl false))
  w : r_w_pair [d] = some (.im .non)
theorem v_w_pair {d : D} {q : Rat} (h : IsV d q) : r_w_pair [d] = some (.im (vq q)) := by
  rcases h with ⟨i, rfl, rfl⟩ | rfl
  · rfl
  · have g : Nat.gcd q.num.natAbs ((q.den : Int)).natAbs = 1 := by rw [Int.natAbs_natCast]; exact q.reduced
    have l1 : decide ((q.den : Int) < 1) = false := decide_eq_false (by have := q.den_pos; omega)
    refine runF_st rfl ?_
    unfold b_w_pair
    refine st_nx (G1 := [.im (vq q), .un]) (by rfl) ?_
    refine st_nx (G1 := [.im (vq q), .un]) (by rfl) ?_
    refine st_nx (G1 := [.im (vq q), .un]) ((xifs_ok (k := false) (xtor_b (k := false) (l := false) (by rfl) (by rw [← l1]; rfl))).trans rfl) ?_
    exact st_ret ((xif_ok (k := true) (xtest_ok (xo2 (xcall_ok (xc1 (xo2 (x := vq q) (y := .int 0) rfl rfl rfl) (xc1 (xo2 (x := vq q) (y := .int 1) rfl rfl rfl) xnil_ok)) (v_w_divisor _ _)) rfl (by rw [g]; rfl)))).trans rfl)
/-- whether a value lies in a stretch -/
def inB (lo hi q : Rat) : Bool := !decide (q < lo) && !decide (hi < q)
theorem runE_st {k n : Nat} {eb : MX} {ds : List D} {x : Ex} {G' : Gam} (hl : ds.length = k) (h : eb (pad n ds) = some (x, G')) : runE k n eb ds = some x := by
  unfold runE
  rw [if_pos hl, h]
theorem runE_no {k n : Nat} {eb : MX} {ds : List D} (h : eb (pad n ds) = none) : runE k n eb ds = none := by
  unfold runE
  rw [h]
  split <;> rfl
theorem eseq_1 {ea eb : MX} {a : MS} {G : Gam} {r : Ex × Gam} (h : ea G = some r) : eseq ea a eb G = some r := by
  unfold eseq
  rw [h]
theorem eseq_2 {ea eb : MX} {a : MS} {G G1 : Gam} {o : Option (Ex × Gam)} (h : ea G = none) (h2 : a G = some (.nx, G1)) (h3 : eb G1 = o) : eseq ea a eb G = o := by
  unfold eseq
  rw [h]
  simp only [h2]
  exact h3
theorem eifs_k {t : M Bool} {ea eb : MX} {G G1 : Gam} {k : Bool} (h : t G = some (k, G1)) : eifs t ea eb G = if k then ea G1 else eb G1 := by
  unfold eifs
  rw [h]
  rfl
theorem ecall_k {e : List D → Option Ex} {a : M (List D)} {G G1 : Gam} {xs : List D} {o : Option Ex} (h : a G = some (xs, G1)) (hm : e xs = o) : ecall e enone a G = o.map fun x => (x, G1) := by
  subst hm
  unfold ecall enone
  rw [h]
  show (match e xs with | some x => some (x, G1) | none => none) = _
  cases e xs <;> rfl
theorem need_v1 {a b : D} {q : Rat} (h : IsV a q) : xtnot (xtru (xcall r_is_value (xcons (xv 0) xnil))) [.im a, .im b] = some (false, [.im a, .im b]) := xtnot_ok (k := true) (xtrub (xcall_ok (xc1 rfl xnil_ok) (v_is_value h)))
theorem en_low {a b : D} (h : NoV a) : e_need_stretch [a, b] = some ⟨0, some (.str "low")⟩ :=
  runE_st (G' := [.im a, .im b]) rfl (eseq_1 ((eifs_k (k := true) (G1 := [.im a, .im b]) (xtnot_ok (k := false) (xtrub (xcall_ok (xc1 rfl xnil_ok) h.p)))).trans rfl))
/-- the second question -/
theorem need_v2 {a b : D} {q r : Rat} (h : IsV a q) (h' : IsV b r) (g : Ht q 40) (g' : Ht r 40) : xtor (xtnot (xtru (xcall r_is_value (xcons (xv 1) xnil)))) (xtnot (xtru (xcall r_is_less (xcons (xcall r_value_of (xcons (xv 0) xnil)) (xcons (xcall r_value_of (xcons (xv 1) xnil)) xnil))))) [.im a, .im b] = some (!decide (q < r), [.im a, .im b]) := by
  have b1 : xcall r_value_of (xcons (xv 0) xnil) [.im a, .im b] = some (.im (vq q), [.im a, .im b]) := xcall_ok (xc1 rfl xnil_ok) (v_value_of h)
  have b2 : xcall r_value_of (xcons (xv 1) xnil) [.im a, .im b] = some (.im (vq r), [.im a, .im b]) := xcall_ok (xc1 rfl xnil_ok) (v_value_of h')
  exact (xtor_b (k := false) (xtnot_ok (k := true) (xtrub (xcall_ok (xc1 rfl xnil_ok) (v_is_value h')))) (xtnot_ok (xtrub (xcall_ok (xc1 b1 (xc1 b2 xnil_ok)) (v_is_less g g' (by omega)))))).trans rfl
theorem en_rest {a b : D} {q : Rat} {k : Bool} (h : IsV a q) (t : xtor (xtnot (xtru (xcall r_is_value (xcons (xv 1) xnil)))) (xtnot (xtru (xcall r_is_less (xcons (xcall r_value_of (xcons (xv 0) xnil)) (xcons (xcall r_value_of (xcons (xv 1) xnil)) xnil))))) [.im a, .im b] = some (k, [.im a, .im b])) :
    e_need_stretch [a, b] = if k then some ⟨0, some (.str "high")⟩ else none := by
  have key : eb_need_stretch (pad 2 [a, b]) = if k then some (⟨0, some (.str "high")⟩, [.im a, .im b]) else none := by
    refine eseq_2 ((eifs_k (need_v1 h)).trans rfl) ((xifs_ok (need_v1 h)).trans rfl) ?_
    cases k
    · exact eseq_2 ((eifs_k t).trans rfl) ((xifs_ok t).trans rfl) rfl
    · exact eseq_1 ((eifs_k t).trans rfl)
  cases k
  · exact runE_no key
  · exact runE_st rfl key
theorem inB_le {lo hi q : Rat} (h : inB lo hi q = true) : lo ≤ q ∧ q ≤ hi := by
  unfold inB at h
  simp only [Bool.and_eq_true, Bool.not_eq_true', decide_eq_false_iff_not] at h
  exact ⟨Rat.not_lt.mp h.1, Rat.not_lt.mp h.2⟩
theorem xforL_rt9 {tg : D → Gam → Option Gam} {b : MS} {d : D} {ds : List D} {G G1 G2 : Gam} {r : R} (e1 : tg d G = some G1) (e2 : b G1 = some (.rt r, G2)) : xforL tg b (d :: ds) G = some (.rt r, G2) := by
  unfold xforL
  rw [e1]
  simp only [e2]
theorem xtry_x {i j : Nat} {b : MS} {eb : MX} {hs : List ((Nat → Bool) × (Ex → M R))} {G G1 : Gam} {x : Ex} {o : Option (Fl × Gam)} {cs : List Nat} (h : eb G = some (x, G1)) (hx : x.c ∈ cs) (hi : i < G1.length) (hr : (match pickH x hs with
    | some f => match f (G1.set i .un) with
      | some (r, G2) => some (Fl.nx, (G2.set j r.ent).set i .un)
      | none => none
    | none => none) = o) : xtry i j cs b eb hs G = o := by
  unfold xtry
  rw [h]
  simp only
  rw [if_pos ⟨hx, hi⟩]
  exact hr
theorem xtry_n {i j : Nat} {b : MS} {eb : MX} {hs : List ((Nat → Bool) × (Ex → M R))} {G : Gam} {o : Option (Fl × Gam)} {cs : List Nat} (h : eb G = none) (hb : b G = o) : xtry i j cs b eb hs G = o := by
  unfold xtry
  rw [h]
  exact hb
theorem repr_of9 {d : D} {p : PyData} (h : toPy d = some p) (ok : okShow p = true) : cbRepr [d] = some (.im (.str p.shown)) := by
  unfold cbRepr
  simp only [h, ok]
  rfl
theorem ne_self (s : PySem.Str) : opNe (.str s) (.str s) = some (.im (.bl false)) := by
  show some (R.im (D.bl (!decide (s = s)))) = _
  rw [decide_eq_true rfl]
  rfl
/-- a thing and the value that it is told as, if it is one -/
def PV (lo hi : Rat) (x : D) (c : Option Rat) : Prop := match c with
  | some q => IsV x q ∧ Ht q 60 ∧ (lo ≤ q → q ≤ hi → Dv 7200000000000000000 130000000000000000000 q)
  | none => NoV x
/-- not behind the last point -/
def ltB (last : Option Rat) (q : Rat) : Bool := match last with
  | some l => !decide (l < q)
  | none => false
/-- whether a thing is wrong behind a last point -/
def bad1 (lo hi : Rat) (last c : Option Rat) : Bool := match c with
  | none => true
  | some q => !inB lo hi q || ltB last q
/-- the place of the first wrong thing -/
def wr (lo hi : Rat) : Option Rat → Nat → List (Option Rat) → Option Nat
  | _, _, [] => none
  | last, i, c :: cs => if bad1 lo hi last c then some i else wr lo hi c (i + 1) cs
section
variable {lo hi : Rat} (h1 : Ht lo 40) (h2 : Ht hi 40)
include h1 h2
theorem bt_v6 {d : D} {q : Rat} (h : IsV d q) (hq : Ht q 60) : r_is_between [d, vq lo, vq hi] = some (.im (.bl (inB lo hi q))) := v_is_between h hq h1 h2 (by omega) (by omega)
theorem bt_n {d : D} (h : NoV d) : r_is_between [d, vq lo, vq hi] = some (.im (.bl false)) :=
  runF_st rfl (st_ret (xvand_f (xcall_ok (xc1 rfl xnil_ok) h.p)))
/-- the package's question -/
theorem np_t {x L : D} {c : Option Rat} {acc : List Rat} (hx : PV lo hi x c) (ha : ∀ q ∈ acc, Ht q 60) :
    xtor (xtnot (xtru (xcall r_is_between (xcons (xv 5) (xcons (xv 0) (xcons (xv 1) xnil)))))) (xtand (xtest (xop opGt (xv 4) (xc (.int 0)))) (xtnot (xtru (xcall r_is_less (xcons (xby 3 (xixv 3 (xun unNeg (xc (.int 1)))) (xop opIx (xv 3) (xun unNeg (xc (.int 1))))) (xcons (xcall r_value_of (xcons (xv 5) xnil)) xnil))))))
      [.im (vq lo), .im (vq hi), .im L, .ol (acc.map vq), .im (.int acc.length), .im x] = some (bad1 lo hi acc.getLast? c, [.im (vq lo), .im (vq hi), .im L, .ol (acc.map vq), .im (.int acc.length), .im x]) := by
  cases c with
  | none => exact xtor_t (xtnot_ok (k := false) (xtrub (xcall_ok (xc1 rfl (xc1 rfl (xc1 rfl xnil_ok))) (bt_n h1 h2 hx))))
  | some q =>
    obtain ⟨v, hq, _⟩ : IsV x q ∧ Ht q 60 ∧ (lo ≤ q → q ≤ hi → Dv 7200000000000000000 130000000000000000000 q) := hx
    have b1 := xtnot_ok (xtrub (xcall_ok (G := [.im (vq lo), .im (vq hi), .im L, .ol (acc.map vq), .im (.int acc.length), .im x]) (xc1 rfl (xc1 rfl (xc1 rfl xnil_ok)) : xcons (xv 5) (xcons (xv 0) (xcons (xv 1) xnil)) _ = _) (bt_v6 h1 h2 v hq)))
    have g : xtest (xop opGt (xv 4) (xc (.int 0))) [.im (vq lo), .im (vq hi), .im L, .ol (acc.map vq), .im (.int acc.length), .im x] = some (decide (((acc.length : Nat) : Int) > 0), [.im (vq lo), .im (vq hi), .im L, .ol (acc.map vq), .im (.int acc.length), .im x]) := xtest_ok (xo2 rfl rfl rfl)
    have vo : xcall r_value_of (xcons (xv 5) xnil) [.im (vq lo), .im (vq hi), .im L, .ol (acc.map vq), .im (.int acc.length), .im x] = some (.im (vq q), [.im (vq lo), .im (vq hi), .im L, .ol (acc.map vq), .im (.int acc.length), .im x]) := xcall_ok (xc1 rfl xnil_ok) (v_value_of v)
    have t2 : xtand (xtest (xop opGt (xv 4) (xc (.int 0)))) (xtnot (xtru (xcall r_is_less (xcons (xby 3 (xixv 3 (xun unNeg (xc (.int 1)))) (xop opIx (xv 3) (xun unNeg (xc (.int 1))))) (xcons (xcall r_value_of (xcons (xv 5) xnil)) xnil))))) [.im (vq lo), .im (vq hi), .im L, .ol (acc.map vq), .im (.int acc.length), .im x] =
        some (ltB acc.getLast? q, [.im (vq lo), .im (vq hi), .im L, .ol (acc.map vq), .im (.int acc.length), .im x]) := by
      match hac : acc.getLast? with
      | none =>
        have : acc = [] := List.getLast?_eq_none_iff.mp hac
        subst this
        exact xtand_f g
      | some z =>
        have hz2 : z ∈ acc := by rw [getLast_split hac]; simp
        have hne : 0 < acc.length := List.length_pos_of_mem hz2
        rw [decide_eq_true (by omega)] at g
        rw [xtand_t g]
        have at1 : atI (acc.map vq) (-1) = some (vq z) := atI_last (by rw [List.getLast?_map, hac]; rfl)
        have ix : xby 3 (xixv 3 (xun unNeg (xc (.int 1)))) (xop opIx (xv 3) (xun unNeg (xc (.int 1)))) [.im (vq lo), .im (vq hi), .im L, .ol (acc.map vq), .im (.int acc.length), .im x] = some (.im (vq z), [.im (vq lo), .im (vq hi), .im L, .ol (acc.map vq), .im (.int acc.length), .im x]) := by
          refine xby_mu rfl ?_
          show (match atI (acc.map vq) (-1) with | some d => some (R.im d, _) | none => none) = _
          rw [at1]
        exact xtnot_ok (xtrub (xcall_ok (xc1 ix (xc1 vo xnil_ok)) (v_is_less (ha z hz2) hq (by decide))))
    exact xtor_b b1 t2
/-- need_points, what it raises -/
theorem np_e {L : D} : ∀ (xs : List (D × Option Rat)) (acc : List Rat) (e4 e5 : Ent), (∀ p ∈ xs, PV lo hi p.1 p.2) → (∀ q ∈ acc, Ht q 60) → acc.length + xs.length ≤ 1000 →
    ∀ (b : MS) (eb : MX), b = xseq (xifs (xtor (xtnot (xtru (xcall r_is_between (xcons (xv 5) (xcons (xv 0) (xcons (xv 1) xnil)))))) (xtand (xtest (xop opGt (xv 4) (xc (.int 0)))) (xtnot (xtru (xcall r_is_less (xcons (xby 3 (xixv 3 (xun unNeg (xc (.int 1)))) (xop opIx (xv 3) (xun unNeg (xc (.int 1))))) (xcons (xcall r_value_of (xcons (xv 5) xnil)) xnil))))))) xnever xnext) (xapp 3 (xcall r_value_of (xcons (xv 5) xnil))) →
      eb = eseq (eifs (xtor (xtnot (xtru (xcall r_is_between (xcons (xv 5) (xcons (xv 0) (xcons (xv 1) xnil)))))) (xtand (xtest (xop opGt (xv 4) (xc (.int 0)))) (xtnot (xtru (xcall r_is_less (xcons (xby 3 (xixv 3 (xun unNeg (xc (.int 1)))) (xop opIx (xv 3) (xun unNeg (xc (.int 1))))) (xcons (xcall r_value_of (xcons (xv 5) xnil)) xnil))))))) (eraise 2 (xv 4)) enone) (xifs (xtor (xtnot (xtru (xcall r_is_between (xcons (xv 5) (xcons (xv 0) (xcons (xv 1) xnil)))))) (xtand (xtest (xop opGt (xv 4) (xc (.int 0)))) (xtnot (xtru (xcall r_is_less (xcons (xby 3 (xixv 3 (xun unNeg (xc (.int 1)))) (xop opIx (xv 3) (xun unNeg (xc (.int 1))))) (xcons (xcall r_value_of (xcons (xv 5) xnil)) xnil))))))) xnever xnext) enone →
      match wr lo hi acc.getLast? acc.length (xs.map (·.2)) with
      | some i => ∃ G', eforL (tgt [(tgn 4), (tgn 5)]) b eb (enumD acc.length (xs.map (·.1))) [.im (vq lo), .im (vq hi), .im L, .ol (acc.map vq), e4, e5] = some (⟨2, some (.int i)⟩, G')
      | none => eforL (tgt [(tgn 4), (tgn 5)]) b eb (enumD acc.length (xs.map (·.1))) [.im (vq lo), .im (vq hi), .im L, .ol (acc.map vq), e4, e5] = none
  | [], acc, e4, e5, _, _, _, b, eb, _, _ => rfl
  | p :: xs, acc, e4, e5, hp, ha, hn, b, eb, hb, heb => by
    have hx := hp p List.mem_cons_self
    have t := np_t h1 h2 (L := L) hx ha
    have st : ∀ (o : Option (Ex × Gam)), (match eb [.im (vq lo), .im (vq hi), .im L, .ol (acc.map vq), .im (.int acc.length), .im p.1] with
        | some r => some r
        | none => match b [.im (vq lo), .im (vq hi), .im L, .ol (acc.map vq), .im (.int acc.length), .im p.1] with
          | some (.nx, G4) => eforL (tgt [(tgn 4), (tgn 5)]) b eb (enumD (acc.length + 1) (xs.map (·.1))) G4
          | some (.ct, G4) => eforL (tgt [(tgn 4), (tgn 5)]) b eb (enumD (acc.length + 1) (xs.map (·.1))) G4
          | _ => none) = o → eforL (tgt [(tgn 4), (tgn 5)]) b eb (enumD acc.length ((p :: xs).map (·.1))) [.im (vq lo), .im (vq hi), .im L, .ol (acc.map vq), e4, e5] = o := fun o ho => ho
    show (match (if bad1 lo hi acc.getLast? p.2 then some acc.length else wr lo hi p.2 (acc.length + 1) (xs.map (·.2))) with | some i => _ | none => _)
    cases hbad : bad1 lo hi acc.getLast? p.2 with
    | true =>
      rw [hbad] at t
      rw [if_pos rfl]
      refine ⟨[.im (vq lo), .im (vq hi), .im L, .ol (acc.map vq), .im (.int acc.length), .im p.1], st _ ?_⟩
      have e1 : eb [.im (vq lo), .im (vq hi), .im L, .ol (acc.map vq), .im (.int acc.length), .im p.1] = some (⟨2, some (.int acc.length)⟩, [.im (vq lo), .im (vq hi), .im L, .ol (acc.map vq), .im (.int acc.length), .im p.1]) := by
        rw [heb]
        exact eseq_1 ((eifs_k t).trans rfl)
      rw [e1]
    | false =>
      rw [hbad] at t
      rw [if_neg Bool.false_ne_true]
      obtain ⟨q, hq⟩ : ∃ q, p.2 = some q := by
        cases z : p.2 with
        | none => rw [z] at hbad; cases hbad
        | some q => exact ⟨q, rfl⟩
      have hx2 : IsV p.1 q ∧ Ht q 60 := by
        have := hx
        rw [hq] at this
        exact ⟨this.1, this.2.1⟩
      rw [List.length_cons] at hn
      have e1 : eb [.im (vq lo), .im (vq hi), .im L, .ol (acc.map vq), .im (.int acc.length), .im p.1] = none := by
        rw [heb]
        exact eseq_2 ((eifs_k t).trans rfl) ((xifs_ok t).trans rfl) rfl
      have vo : xcall r_value_of (xcons (xv 5) xnil) [.im (vq lo), .im (vq hi), .im L, .ol (acc.map vq), .im (.int acc.length), .im p.1] = some (.im (vq q), [.im (vq lo), .im (vq hi), .im L, .ol (acc.map vq), .im (.int acc.length), .im p.1]) := xcall_ok (xc1 rfl xnil_ok) (v_value_of hx2.1)
      have e2 : b [.im (vq lo), .im (vq hi), .im L, .ol (acc.map vq), .im (.int acc.length), .im p.1] = some (.nx, [.im (vq lo), .im (vq hi), .im L, .ol ((acc ++ [q]).map vq), .im (.int acc.length), .im p.1]) := by
        rw [hb, xseq_nx ((xifs_ok t).trans rfl)]
        exact xapp_ok (bs := acc.map vq) rfl vo rfl rfl (by rw [List.length_map]; omega) (by rw [List.map_append]; rfl)
      have ih := np_e (L := L) xs (acc ++ [q]) (.im (.int acc.length)) (.im p.1) (fun z hz => hp z (List.mem_cons_of_mem _ hz)) (fun z hz => by
        rcases List.mem_append.mp hz with h | h
        · exact ha z h
        · rw [List.mem_singleton.mp h]; exact hx2.2) (by rw [List.length_append, List.length_singleton]; omega) b eb hb heb
      rw [List.length_append, List.length_singleton, List.getLast?_append, List.getLast?_singleton] at ih
      have e3 : (some q).or acc.getLast? = p.2 := by rw [hq]; rfl
      rw [e3] at ih
      generalize wr lo hi p.2 (acc.length + 1) (xs.map (·.2)) = w at ih
      cases w with
      | none =>
        refine st _ ?_
        rw [e1]
        simp only [e2]
        exact ih
      | some i =>
        obtain ⟨G', ih⟩ := ih
        refine ⟨G', st _ ?_⟩
        rw [e1]
        simp only [e2]
        exact ih
end
theorem dv_ptX {p o : Rat} (hp : Dv 7200000000000000000 130000000000000000000 p) (ho : Dv 7200000000000000000 130000000000000000000 o) (hne : p ≠ o) : ∃ W : Int, W ≠ 0 ∧ W.natAbs ≤ 260000000000000000000 ∧ (p - o) * ((7200000000000000000 : Int) : Rat) = (W : Rat) := by
  obtain ⟨_, z, hz, hz2⟩ := hp.sub ho
  refine ⟨z, fun h0 => ?_, hz2, hz⟩
  rw [h0] at hz
  have h7 : (((7200000000000000000 : Nat) : Int) : Rat) ≠ 0 := natR_ne (by decide)
  rcases Rat.mul_eq_zero.mp (hz.trans rfl) with h1 | h1
  · exact hne (by grind)
  · exact h7 h1
theorem lagS_dvX {p o : Rat} (hp : Dv 7200000000000000000 130000000000000000000 p) (ho : Dv 7200000000000000000 130000000000000000000 o) (hne : p ≠ o) {D B : Nat} {f : List Rat} (hf : ∀ c ∈ f, Dv D B c) (hD : D ≠ 0) :
    ∃ D', D' ≠ 0 ∧ D' ≤ D * 260000000000000000000 ∧ ∀ c ∈ lagS (p - o) o f, Dv D' (B * 137200000000000000000) c := by
  obtain ⟨W, hW, hW2, hWe⟩ := dv_ptX hp ho hne
  obtain ⟨_, O, hO, hO2⟩ := ho
  refine ⟨D * W.natAbs, Nat.mul_ne_zero hD (by omega), Nat.mul_le_mul (Nat.le_refl _) hW2, fun c hc => ?_⟩
  unfold lagS at hc
  rw [lagZ_zip] at hc
  obtain ⟨⟨a, b⟩, hab, rfl⟩ := List.mem_map.mp hc
  obtain ⟨ha, hb⟩ := List.of_mem_zip hab
  have ha' : Dv D B a := by
    rcases List.mem_cons.mp ha with rfl | ha
    · exact (Dv.zero hD).up (Nat.zero_le _)
    · exact hf a ha
  obtain ⟨b', hb', rfl⟩ := List.mem_map.mp hb
  have hb'' : Dv D B b' := by
    rcases List.mem_append.mp hb' with hb' | hb'
    · exact hf b' hb'
    · rw [List.mem_singleton.mp hb']
      exact (Dv.zero hD).up (Nat.zero_le _)
  obtain ⟨_, x, hx, hx2⟩ := ha'
  obtain ⟨_, y, hy, hy2⟩ := hb''
  refine ⟨Nat.mul_ne_zero hD (by omega), (if 0 < W then 1 else -1) * (x * 7200000000000000000 - y * O), ?_, ?_⟩
  · have w1 : p - o ≠ 0 := fun h => hne (by grind)
    have key : (a - b' * o) / (p - o) * (W : Rat) * ((D : Int) : Rat) = ((x * 7200000000000000000 - y * O : Int) : Rat) := by
      rw [← hWe, Rat.div_def]
      have i1 : (p - o)⁻¹ * (p - o) = 1 := Rat.inv_mul_cancel _ w1
      rw [Rat.intCast_sub, Rat.intCast_mul, Rat.intCast_mul, ← hx, ← hy, ← hO]
      have : (((7200000000000000000 : Nat) : Int) : Rat) = ((7200000000000000000 : Int) : Rat) := rfl
      grind
    rw [natR_mul]
    by_cases hs : 0 < W
    · rw [if_pos hs, Int.one_mul, show ((W.natAbs : Nat) : Int) = W by omega, ← key]
      show (a - b' * o) / (p - o) * _ = _
      grind
    · rw [if_neg hs, show ((W.natAbs : Nat) : Int) = -W by omega, Rat.intCast_mul, ← key, Rat.intCast_neg]
      show (a - b' * o) / (p - o) * _ = _
      have : ((-1 : Int) : Rat) = -1 := rfl
      grind
  · have e1 : ((if 0 < W then (1 : Int) else -1) * (x * 7200000000000000000 - y * O)).natAbs = (x * 7200000000000000000 - y * O).natAbs := by
      split <;> omega
    rw [e1]
    have h1 := Int.natAbs_sub_le (x * 7200000000000000000) (y * O)
    rw [Int.natAbs_mul, Int.natAbs_mul] at h1
    have h2 : x.natAbs * 7200000000000000000 ≤ B * 7200000000000000000 := Nat.mul_le_mul hx2 (Nat.le_refl _)
    have h3 : y.natAbs * O.natAbs ≤ B * 130000000000000000000 := Nat.mul_le_mul hy2 hO2
    have h4 : (7200000000000000000 : Int).natAbs = 7200000000000000000 := rfl
    rw [h4] at h1
    exact Nat.le_trans h1 (Nat.le_trans (Nat.add_le_add h2 h3) (Nat.le_of_eq (Nat.mul_add B 7200000000000000000 130000000000000000000).symm))
theorem lag_dvX {p : Rat} (hp : Dv 7200000000000000000 130000000000000000000 p) : ∀ (os f : List Rat) (D B : Nat), (∀ o ∈ os, Dv 7200000000000000000 130000000000000000000 o ∧ p ≠ o) → D ≠ 0 → (∀ c ∈ f, Dv D B c) → ∃ D', D' ≠ 0 ∧ D' ≤ D * 260000000000000000000 ^ os.length ∧ ∀ c ∈ lag p f os, Dv D' (B * 137200000000000000000 ^ os.length) c
  | [], f, D, B, _, hD, hf => ⟨D, hD, by rw [List.length_nil]; omega, by rw [List.length_nil, Nat.pow_zero, Nat.mul_one]; exact hf⟩
  | o :: os, f, D, B, ho, hD, hf => by
    obtain ⟨D1, h1, h2, h3⟩ := lagS_dvX hp (ho o List.mem_cons_self).1 (ho o List.mem_cons_self).2 hf hD
    obtain ⟨D2, g1, g2, g3⟩ := lag_dvX hp os _ D1 _ (fun z hz => ho z (List.mem_cons_of_mem _ hz)) h1 h3
    refine ⟨D2, g1, Nat.le_trans g2 (Nat.le_trans (Nat.mul_le_mul h2 (Nat.le_refl _)) ?_), fun c hc => ?_⟩
    · rw [List.length_cons, Nat.pow_succ, Nat.mul_assoc, Nat.mul_comm 260000000000000000000]
      exact Nat.le_refl _
    · have := g3 c hc
      rw [List.length_cons, Nat.pow_succ, Nat.mul_comm (137200000000000000000 ^ os.length), ← Nat.mul_assoc]
      exact this
theorem np_loopX {lo hi : Rat} {d : D} (h1 : Ht lo 68) (h2 : Ht hi 68) : ∀ (ps : List (D × Rat)) (acc : List Rat) (e4 e5 : Ent), (∀ p ∈ ps, IsV p.1 p.2 ∧ Ht p.2 68 ∧ lo ≤ p.2 ∧ p.2 ≤ hi) → (∀ q ∈ acc, Ht q 68) → (acc ++ ps.map (·.2)).Pairwise (· < ·) → acc.length + ps.length ≤ 1000 →
    ∃ e4' e5', xforL (tgt [(tgn 4), (tgn 5)]) b_need_points_1 (enumD acc.length (ps.map (·.1))) [.im (vq lo), .im (vq hi), .im d, .ol (acc.map vq), e4, e5] = some (.nx, [.im (vq lo), .im (vq hi), .im d, .ol ((acc ++ ps.map (·.2)).map vq), e4', e5'])
  | [], acc, e4, e5, _, _, _, _ => ⟨e4, e5, by rw [show (acc ++ List.map (fun x : D × Rat => x.2) []) = acc from List.append_nil _]; rfl⟩
  | p :: ps, acc, e4, e5, hp, ha, hs, hn => by
    obtain ⟨v, b1, b2, b3⟩ := hp p List.mem_cons_self
    rw [List.length_cons] at hn
    have hs' : ((acc ++ [p.2]) ++ ps.map (·.2)).Pairwise (· < ·) := by rw [List.append_assoc]; exact hs
    obtain ⟨f4, f5, ih⟩ := np_loopX (d := d) h1 h2 ps (acc ++ [p.2]) (.im (.int acc.length)) (.im p.1) (fun z hz => hp z (List.mem_cons_of_mem _ hz)) (fun q hq => by
      rcases List.mem_append.mp hq with h | h
      · exact ha q h
      · rw [List.mem_singleton.mp h]; exact b1) hs' (by rw [List.length_append, List.length_singleton]; omega)
    rw [List.append_assoc, List.length_append, List.length_singleton] at ih
    refine ⟨f4, f5, ?_⟩
    have bt : xcall r_is_between (xcons (xv 5) (xcons (xv 0) (xcons (xv 1) xnil))) [.im (vq lo), .im (vq hi), .im d, .ol (acc.map vq), .im (.int acc.length), .im p.1] = some (.im (.bl true), [.im (vq lo), .im (vq hi), .im d, .ol (acc.map vq), .im (.int acc.length), .im p.1]) := by
      have := v_is_between v b1 h1 h2 (by decide) (by decide)
      rw [decide_eq_false (by grind : ¬ p.2 < lo), decide_eq_false (by grind : ¬ hi < p.2)] at this
      exact xcall_ok (xc1 rfl (xc1 rfl (xc1 rfl xnil_ok))) this
    have vo : xcall r_value_of (xcons (xv 5) xnil) [.im (vq lo), .im (vq hi), .im d, .ol (acc.map vq), .im (.int acc.length), .im p.1] = some (.im (vq p.2), [.im (vq lo), .im (vq hi), .im d, .ol (acc.map vq), .im (.int acc.length), .im p.1]) := xcall_ok (xc1 rfl xnil_ok) (v_value_of v)
    have g : xtest (xop opGt (xv 4) (xc (.int 0))) [.im (vq lo), .im (vq hi), .im d, .ol (acc.map vq), .im (.int acc.length), .im p.1] = some (decide (((acc.length : Nat) : Int) > 0), [.im (vq lo), .im (vq hi), .im d, .ol (acc.map vq), .im (.int acc.length), .im p.1]) := xtest_ok (xo2 rfl rfl rfl)
    have t2 : xtand (xtest (xop opGt (xv 4) (xc (.int 0)))) (xtnot (xtru (xcall r_is_less (xcons (xby 3 (xixv 3 (xun unNeg (xc (.int 1)))) (xop opIx (xv 3) (xun unNeg (xc (.int 1))))) (xcons (xcall r_value_of (xcons (xv 5) xnil)) xnil))))) [.im (vq lo), .im (vq hi), .im d, .ol (acc.map vq), .im (.int acc.length), .im p.1] = some (false, [.im (vq lo), .im (vq hi), .im d, .ol (acc.map vq), .im (.int acc.length), .im p.1]) := by
      match hac : acc.getLast? with
      | none =>
        have : acc = [] := List.getLast?_eq_none_iff.mp hac
        subst this
        exact xtand_f g
      | some z =>
        have hz : acc = acc.dropLast ++ [z] := getLast_split hac
        have hz2 : z ∈ acc := by rw [hz]; simp
        have hne : 0 < acc.length := List.length_pos_of_mem hz2
        have hlt : z < p.2 := (List.pairwise_append.mp hs).2.2 z hz2 p.2 (by simp)
        rw [decide_eq_true (by omega)] at g
        rw [xtand_t g]
        have at1 : atI (acc.map vq) (-1) = some (vq z) := atI_last (by rw [List.getLast?_map, hac]; rfl)
        have ix : xby 3 (xixv 3 (xun unNeg (xc (.int 1)))) (xop opIx (xv 3) (xun unNeg (xc (.int 1)))) [.im (vq lo), .im (vq hi), .im d, .ol (acc.map vq), .im (.int acc.length), .im p.1] = some (.im (vq z), [.im (vq lo), .im (vq hi), .im d, .ol (acc.map vq), .im (.int acc.length), .im p.1]) := by
          refine xby_mu rfl ?_
          show (match atI (acc.map vq) (-1) with | some d => some (R.im d, _) | none => none) = _
          rw [at1]
        have il := v_is_less (ha z hz2) b1 (by decide)
        rw [decide_eq_true hlt] at il
        exact xtnot_ok (k := true) (xtrub (xcall_ok (xc1 ix (xc1 vo xnil_ok)) il))
    refine (xforL_nx (G1 := [.im (vq lo), .im (vq hi), .im d, .ol (acc.map vq), .im (.int acc.length), .im p.1]) rfl ?_).trans ih
    unfold b_need_points_1
    rw [xseq_nx ((xifs_ok (k := false) (xtor_b (k := false) (l := false) (xtnot_ok (k := true) (xtrub bt)) t2)).trans rfl)]
    refine xapp_ok (bs := acc.map vq) rfl vo rfl rfl (by rw [List.length_map]; omega) ?_
    rw [List.map_append]
    rfl
theorem v_need_pointsX {lo hi : Rat} {d : D} {ps : List (D × Rat)} (h1 : Ht lo 68) (h2 : Ht hi 68) (hd : isSq d (ps.map (·.1))) (hp : ∀ p ∈ ps, IsV p.1 p.2 ∧ Ht p.2 68 ∧ lo ≤ p.2 ∧ p.2 ≤ hi) (hs : (ps.map (·.2)).Pairwise (· < ·)) (hn : 0 < ps.length) (hn9 : ps.length ≤ 900) :
    r_need_points [vq lo, vq hi, d] = some (.ol ((ps.map (·.2)).map vq)) := by
  obtain ⟨e4, e5, l⟩ := np_loopX (d := d) h1 h2 ps [] .un .un hp (by simp) hs (by simp only [List.length_nil]; omega)
  have ln : cbLen [d] = some (.im (.int ps.length)) := by
    have : (ps.map (·.1)).length = ps.length := List.length_map _
    rw [← this]
    rcases hd with rfl | rfl | rfl <;> rfl
  have q1 : xcall r_is_sequence (xcons (xv 2) xnil) [.im (vq lo), .im (vq hi), .im d, .un, .un, .un] = some (.im (.bl true), [.im (vq lo), .im (vq hi), .im d, .un, .un, .un]) := xcall_ok (xc1 rfl xnil_ok) (v_is_sequence hd)
  have z0 : opEq (.int (ps.length : Int)) (.int 0) = some (.im (.bl false)) := by
    show some (R.im (.bl (decide (((ps.length : Nat) : Int) = 0)))) = _
    rw [decide_eq_false (by omega)]
  have q2 : xtest (xop opEq (xcb cbLen (xcons (xv 2) xnil)) (xc (.int 0))) [.im (vq lo), .im (vq hi), .im d, .un, .un, .un] = some (false, [.im (vq lo), .im (vq hi), .im d, .un, .un, .un]) := xtest_ok (xo2 (xcb_ok (xc1 rfl xnil_ok) ln) rfl z0)
  refine runF_st rfl ?_
  refine st_nx (G1 := [.im (vq lo), .im (vq hi), .im d, .un, .un, .un]) ((xifs_ok (k := false) (xtor_b (k := false) (l := false) (xtnot_ok (k := true) (xtrub q1)) q2)).trans rfl) ?_
  refine st_nx (G1 := [.im (vq lo), .im (vq hi), .im d, .ol ([].map vq), .un, .un]) (by rfl) ?_
  have en : xenumA (xcons (xv 2) xnil) [.im (vq lo), .im (vq hi), .im d, .ol (([] : List Rat).map vq), .un, .un] = some (enumD 0 (ps.map (·.1)), [.im (vq lo), .im (vq hi), .im d, .ol (([] : List Rat).map vq), .un, .un]) := by
    unfold xenumA
    rw [xc1 (d := d) rfl xnil_ok]
    simp only [bd_some, hd.seq]
  refine st_nx (by exact xfor_ok en l) ?_
  exact st_ret (G1 := [.im (vq lo), .im (vq hi), .im d, .un, e4, e5]) (by rfl)
theorem po_stepX {p o : Rat} {d : D} {e3 e4 e5 : Ent} {f : List Rat} (h0 : p ≠ o) (hp : Ht p 68) (ho : Ht o 68) (hf : ∀ c ∈ f, Ht c 275) (hn : f.length ≤ 1000) :
    b_powers_of_1 [.im (vq p), .im d, .ol (f.map vq), .im (vq o), e4, e5, .un, .un, .un] = some (.nx, [.im (vq p), .im d, .ol ((lagS (p - o) o f).map vq), .im (vq o), .im (vq (p - o)), .im (.lst (((f ++ [0]).map fun c => c * o).map vq)), .un, .un, .un]) := by
  have hw : p - o ≠ 0 := fun h => h0 (by grind)
  have s4 : xset 4 (xcall r_less_by (xcons (xv 0) (xcons (xv 3) xnil))) [.im (vq p), .im d, .ol (f.map vq), .im (vq o), e4, e5, .un, .un, .un] = some (.nx, [.im (vq p), .im d, .ol (f.map vq), .im (vq o), .im (vq (p - o)), e5, .un, .un, .un]) :=
    xset_e (xcall_ok (xc1 rfl (xc1 rfl xnil_ok)) (v_less_by hp ho (by decide))) rfl
  have hl1 : (f ++ [0]).length ≤ 100000 := by rw [List.length_append, List.length_singleton]; omega
  have c5 : xlc (xseqI (xlst (xstar (xv 2) (xcons (xc c_NOUGHT) xnil)))) (tgn 6) xtyes (xcall r_multiplied (xcons (xv 6) (xcons (xv 3) xnil))) [6] [.im (vq p), .im d, .ol (f.map vq), .im (vq o), .im (vq (p - o)), e5, .un, .un, .un] =
      some (.ol ((f ++ [0]).map fun c => vq (c * o)), [.im (vq p), .im d, .im (.lst (f.map vq)), .im (vq o), .im (vq (p - o)), e5, .un, .un, .un]) := by
    refine xlc_un (ds := (f ++ [0]).map vq) (G := [.im (vq p), .im d, .im (.lst (f.map vq)), .im (vq o), .im (vq (p - o)), e5, .un, .un, .un]) ?_ rfl rfl rfl (xlcL_en (fun c : Rat => vq (c * o)) fun c hc => ?_) (by rw [List.length_map]; exact hl1)
    · refine xseqR_ok (r := .ol (f.map vq ++ [vq 0])) (xlst_ok (xs := f.map vq ++ [vq 0]) (xstar_ok (r := .im (.lst (f.map vq))) (ds := f.map vq) rfl rfl (xc1 rfl xnil_ok)) (fewl (by rw [List.length_append, List.length_map]; simp only [List.length_singleton]; omega))) ?_
      rw [List.map_append]
      rfl
    · have hc' : Ht c 275 := by
        rcases List.mem_append.mp hc with hc | hc
        · exact hf c hc
        · rw [List.mem_singleton.mp hc]; exact ht0.up (by decide)
      exact ⟨[.im (vq p), .im d, .im (.lst (f.map vq)), .im (vq o), .im (vq (p - o)), e5, .im (vq c), .un, .un], _, _, rfl, xcall_ok (xc1 rfl (xc1 rfl xnil_ok)) (v_multiplied hc' ho (by decide)), rfl, rfl⟩
  rw [show List.map (fun c : Rat => vq (c * o)) (f ++ [0]) = List.map vq (List.map (fun c : Rat => c * o) (f ++ [0])) from by rw [List.map_map]; rfl] at c5
  have c2 : xlc (xzipA (xcons (xlst (xcons (xc c_NOUGHT) (xstar (xv 2) xnil))) (xcons (xv 5) xnil))) (tgt [(tgn 7), (tgn 8)]) xtyes (xcall r_quotient (xcons (xcall r_less_by (xcons (xv 7) (xcons (xv 8) xnil))) (xcons (xv 4) xnil))) [7, 8]
      [.im (vq p), .im d, .im (.lst (f.map vq)), .im (vq o), .im (vq (p - o)), .ol (((f ++ [0]).map fun c => c * o).map vq), .un, .un, .un] =
      some (.ol (((0 :: f).zip ((f ++ [0]).map fun c => c * o)).map fun z => vq ((z.1 - z.2) / (p - o))), [.im (vq p), .im d, .im (.lst (f.map vq)), .im (vq o), .im (vq (p - o)), .im (.lst (((f ++ [0]).map fun c => c * o).map vq)), .un, .un, .un]) := by
    refine xlc_un (vs := [7, 8]) (ds := ((0 :: f).zip ((f ++ [0]).map fun c => c * o)).map pD) (G := [.im (vq p), .im d, .im (.lst (f.map vq)), .im (vq o), .im (vq (p - o)), .im (.lst (((f ++ [0]).map fun c => c * o).map vq)), .un, .un, .un]) ?_ rfl rfl rfl (xlcL_en (fun z : Rat × Rat => vq ((z.1 - z.2) / (p - o))) fun z hz => ?_) ?_
    · have e : ((0 :: f).zip ((f ++ [0]).map fun c => c * o)).map pD = (((0 :: f).map vq).zip (((f ++ [0]).map fun c => c * o).map vq)).map fun z => D.tup [z.1, z.2] := by
        rw [List.zip_map, List.map_map]
        rfl
      rw [e]
      refine xzip_ok (x := .lst ((0 :: f).map vq)) (y := .lst (((f ++ [0]).map fun c => c * o).map vq)) ?_ rfl rfl
      refine xcons_ok (r := .ol ((0 :: f).map vq)) (G1 := [.im (vq p), .im d, .im (.lst (f.map vq)), .im (vq o), .im (vq (p - o)), .ol (((f ++ [0]).map fun c => c * o).map vq), .un, .un, .un]) (xlst_ok (xs := (0 :: f).map vq) (xc1 (d := vq 0) rfl ?_) (fewl (by rw [List.length_map, List.length_cons]; omega))) (xc1 rfl xnil_ok)
      have := xstar_ok (a := xv 2) (b := xnil) (G := [.im (vq p), .im d, .im (.lst (f.map vq)), .im (vq o), .im (vq (p - o)), .ol (((f ++ [0]).map fun c => c * o).map vq), .un, .un, .un]) (r := .im (.lst (f.map vq))) (ds := f.map vq) rfl rfl xnil_ok
      rw [List.append_nil] at this
      exact this
    · obtain ⟨h1, h2⟩ := List.of_mem_zip hz
      have g1 : Ht z.1 275 := by
        rcases List.mem_cons.mp h1 with h | h
        · rw [h]; exact ht0.up (by decide)
        · exact hf _ h
      have g2 : Ht z.2 (275 + 68) := by
        obtain ⟨c, hc, e⟩ := List.mem_map.mp h2
        rw [← e]
        rcases List.mem_append.mp hc with hc | hc
        · exact (hf c hc).mul ho
        · rw [List.mem_singleton.mp hc]; exact ((ht0.up (by decide : 1 ≤ 275)).mul ho)
      exact ⟨[.im (vq p), .im d, .im (.lst (f.map vq)), .im (vq o), .im (vq (p - o)), .im (.lst (((f ++ [0]).map fun c => c * o).map vq)), .un, .im (vq z.1), .im (vq z.2)], _, _, rfl, xcall_ok (xc1 (xcall_ok (xc1 rfl (xc1 rfl xnil_ok)) (v_less_by g1 g2 (by decide))) (xc1 rfl xnil_ok)) (v_quotient (g1.sub g2) (hp.sub ho) hw (by decide)), rfl, rfl⟩
    · rw [List.length_map, List.length_zip, List.length_cons]
      omega
  rw [show List.map (fun z : Rat × Rat => vq ((z.1 - z.2) / (p - o))) (List.zip (0 :: f) (List.map (fun c : Rat => c * o) (f ++ [0]))) = (lagS (p - o) o f).map vq from by
    unfold lagS
    rw [lagZ_zip, List.map_map]
    rfl] at c2
  unfold b_powers_of_1
  rw [xseq_nx s4, xseq_nx (xset_e c5 rfl)]
  exact xset_e c2 rfl
theorem pwo_loopX {p : Rat} {d : D} (hp : Dv 7200000000000000000 130000000000000000000 p) : ∀ (os f : List Rat) (D B : Nat) (e3 e4 e5 : Ent), (∀ o ∈ os, Dv 7200000000000000000 130000000000000000000 o ∧ p ≠ o) → D ≠ 0 → (∀ c ∈ f, Dv D B c) → D * 260000000000000000000 ^ os.length < 2 ^ 275 → B * 137200000000000000000 ^ os.length < 2 ^ 275 → f.length + os.length ≤ 900 →
    ∃ e3' e4' e5', xforL (tgn 3) b_powers_of_1 (os.map vq) [.im (vq p), .im d, .ol (f.map vq), e3, e4, e5, .un, .un, .un] = some (.nx, [.im (vq p), .im d, .ol ((lag p f os).map vq), e3', e4', e5', .un, .un, .un])
  | [], f, D, B, e3, e4, e5, _, _, _, _, _, _ => ⟨e3, e4, e5, rfl⟩
  | o :: os, f, D, B, e3, e4, e5, ho, hD, hf, h1, h2, h3 => by
    obtain ⟨ho1, ho2⟩ := ho o List.mem_cons_self
    rw [List.length_cons] at h1 h2 h3
    obtain ⟨D1, g1, g2, g3⟩ := lagS_dvX hp ho1 ho2 hf hD
    have q1 : D < 2 ^ 275 := Nat.lt_of_le_of_lt (Nat.le_mul_of_pos_right D (Nat.pow_pos (by decide))) h1
    have q2 : B < 2 ^ 275 := Nat.lt_of_le_of_lt (Nat.le_mul_of_pos_right B (Nat.pow_pos (by decide))) h2
    have q3 : D * 260000000000000000000 * 260000000000000000000 ^ os.length = D * 260000000000000000000 ^ (os.length + 1) := by rw [Nat.pow_succ, Nat.mul_comm (260000000000000000000 ^ os.length), ← Nat.mul_assoc]
    have q4 : B * 137200000000000000000 * 137200000000000000000 ^ os.length = B * 137200000000000000000 ^ (os.length + 1) := by rw [Nat.pow_succ, Nat.mul_comm (137200000000000000000 ^ os.length), ← Nat.mul_assoc]
    have st := po_stepX (d := d) (e3 := e3) (e4 := e4) (e5 := e5) ho2 (hp.ht (k := 68) (by decide) (by decide)) (ho1.ht (k := 68) (by decide) (by decide)) (fun c hc => (hf c hc).ht q1 q2) (by omega)
    obtain ⟨e3', e4', e5', ih⟩ := pwo_loopX (d := d) hp os (lagS (p - o) o f) D1 (B * 137200000000000000000) (.im (vq o)) (.im (vq (p - o))) (.im (.lst (((f ++ [0]).map fun c => c * o).map vq))) (fun z hz => ho z (List.mem_cons_of_mem _ hz)) g1 g3 (Nat.lt_of_le_of_lt (Nat.mul_le_mul g2 (Nat.le_refl _)) (by rw [q3]; exact h1)) (by rw [q4]; exact h2) (by rw [lagS_len]; omega)
    exact ⟨e3', e4', e5', (xforL_nx rfl st).trans ih⟩
theorem v_powers_ofX {p : Rat} {d : D} {os : List Rat} (hd : seqD d = some (os.map vq)) (hp : Dv 7200000000000000000 130000000000000000000 p) (ho : ∀ o ∈ os, Dv 7200000000000000000 130000000000000000000 o ∧ p ≠ o) (hn : os.length ≤ 4) : r_powers_of [vq p, d] = some (.ol ((lag p [1] os).map vq)) := by
  obtain ⟨e3, e4, e5, l⟩ := pwo_loopX (d := d) hp os [1] 1 1 .un .un .un ho (by decide) (fun c hc => by rw [List.mem_singleton.mp hc]; exact Dv.one) (Nat.lt_of_le_of_lt (Nat.mul_le_mul (Nat.le_refl _) (Nat.pow_le_pow_right (by decide) hn)) (by decide)) (Nat.lt_of_le_of_lt (Nat.mul_le_mul (Nat.le_refl _) (Nat.pow_le_pow_right (by decide) hn)) (by decide)) (by simp only [List.length_singleton]; omega)
  refine runF_st rfl ?_
  refine st_nx (G1 := [.im (vq p), .im d, .ol ([1].map vq), .un, .un, .un, .un, .un, .un]) (by rfl) ?_
  refine st_nx (by exact xfor_ok (xseqI_ok rfl hd) l) ?_
  exact st_ret (G1 := [.im (vq p), .im d, .un, e3, e4, e5, .un, .un, .un]) (by rfl)
theorem ls_oneX {lo hi : Rat} (h : lo < hi) : lsOf [(lo, hi, 1)] = [(lo, hi, 1)] :=
  can_uniq (lsOf_can _) (.cons h (show (1 : Rat) ≠ 0 by decide) (by simp) (by simp) .nil) (se_ls fun s hs => by
    rw [List.mem_singleton.mp hs]
    exact Rat.le_of_lt h)
def lagWX (lo hi : Rat) (pts : List Rat) (p : Rat) : Rat := hor (areaP (lagP pts p)) hi - hor (areaP (lagP pts p)) lo
theorem tol_areaX (lo hi : Rat) (cs : List Rat) : tol [] [(lo, hi, 1)] cs = hor (areaP cs) hi - hor (areaP cs) lo := by
  unfold tol wval sval
  rw [sumM_nil, sumM_cons, sumM_nil]
  show (0 : Rat) + (1 * (hor (areaP cs) hi - hor (areaP cs) lo) + 0) = _
  grind
def PtsX (lo hi : Rat) (pts : List Rat) : Prop := pts.Pairwise (· < ·) ∧ (∀ p ∈ pts, Dv 7200000000000000000 130000000000000000000 p ∧ lo ≤ p ∧ p ≤ hi) ∧ pts.length ≤ 5
theorem PtsX.oth {lo hi : Rat} {pts : List Rat} (h : PtsX lo hi pts) {p : Rat} (hp : p ∈ pts) : (∀ o ∈ Bk.oth pts p, Dv 7200000000000000000 130000000000000000000 o ∧ p ≠ o) ∧ (Bk.oth pts p).length ≤ 4 := by
  refine ⟨fun o ho => ?_, ?_⟩
  · have h1 := List.mem_filter.mp ho
    refine ⟨(h.2.1 o h1.1).1, fun e => ?_⟩
    have := h1.2
    rw [e] at this
    simp at this
  · have := oth_len h.1 hp
    have := h.2.2
    omega
theorem PtsX.lagDv {lo hi : Rat} {pts : List Rat} (h : PtsX lo hi pts) {p : Rat} (hp : p ∈ pts) : ∃ D, D ≠ 0 ∧ D ≤ 260000000000000000000 ^ 4 ∧ ∀ c ∈ lagP pts p, Dv D (137200000000000000000 ^ 4) c := by
  obtain ⟨h1, h2⟩ := h.oth hp
  obtain ⟨D, d1, d2, d3⟩ := lag_dvX (h.2.1 p hp).1 (Bk.oth pts p) [1] 1 1 h1 (by decide) (fun c hc => by rw [List.mem_singleton.mp hc]; exact Dv.one)
  rw [Nat.one_mul] at d2
  refine ⟨D, d1, Nat.le_trans d2 (Nat.pow_le_pow_right (by decide) h2), fun c hc => (d3 c hc).up ?_⟩
  rw [Nat.one_mul]
  exact Nat.pow_le_pow_right (by decide) h2
theorem PtsX.w {lo hi : Rat} {pts : List Rat} (h : PtsX lo hi pts) (hlo : Dv 7200000000000000000 130000000000000000000 lo) (hhi : Dv 7200000000000000000 130000000000000000000 hi) {p : Rat} (hp : p ∈ pts) : Ht (lagWX lo hi pts p) 780 := by
  obtain ⟨D, d1, d2, d3⟩ := h.lagDv hp
  have ln : (lagP pts p).length ≤ 5 := by rw [lagP_len h.1 hp]; exact h.2.2
  have ha := apow_dv (C := D) (Y := 137200000000000000000 ^ 4) (M := 60) (by decide) (n := 6) (fun i hi => by
    have : i = 0 ∨ i = 1 ∨ i = 2 ∨ i = 3 ∨ i = 4 ∨ i = 5 := by omega
    rcases this with rfl | rfl | rfl | rfl | rfl | rfl <;> decide) (cs := lagP pts p) (i := 0) d3 (by omega)
  have hA : ∀ c ∈ areaP (lagP pts p), Dv (D * 60) (137200000000000000000 ^ 4 * 60) c := fun c hc => by
    rcases List.mem_cons.mp hc with rfl | hc
    · exact (Dv.zero (Nat.mul_ne_zero d1 (by decide))).up (Nat.zero_le _)
    · exact ha c hc
  have lA : (areaP (lagP pts p)).length ≤ 6 + 1 := by rw [areaP_len]; omega
  have x1 := hor_dv (n := 6) hhi (by decide) (Nat.mul_ne_zero d1 (by decide)) hA lA
  have x2 := hor_dv (n := 6) hlo (by decide) (Nat.mul_ne_zero d1 (by decide)) hA lA
  refine (x1.sub x2).ht ?_ (by decide)
  exact Nat.lt_of_le_of_lt (Nat.mul_le_mul (Nat.mul_le_mul d2 (Nat.le_refl _)) (Nat.le_refl _)) (by decide)
def bestWX (lo hi : Rat) (pts : List Rat) : List Wt := pts.map fun p => (p, lagWX lo hi pts p)
theorem lagP_toldX {lo hi : Rat} {pts : List Rat} (h : PtsX lo hi pts) (hlo : Dv 7200000000000000000 130000000000000000000 lo) (hhi : Dv 7200000000000000000 130000000000000000000 hi) {p : Rat} (hp : p ∈ pts) : r_told [.obj 0 (rlL lo hi [] [(lo, hi, 1)]), .lst ((lagP pts p).map vq)] = some (.im (vq (lagWX lo hi pts p))) := by
  obtain ⟨D, d1, d2, d3⟩ := h.lagDv hp
  have ln : (lagP pts p).length ≤ 5 := by rw [lagP_len h.1 hp]; exact h.2.2
  have m1 : ((lagP pts p).length + 1) * (68 + 275 + 3 + 2) ≤ 6 * 348 := Nat.mul_le_mul (by omega) (Nat.le_refl _)
  have T : TolOk [] [(lo, hi, 1)] (lagP pts p) 68 2 275 3 := by
    refine ⟨by simp, fun s hs => ?_, fun c hc => (d3 c hc).ht (Nat.lt_of_le_of_lt d2 (by decide)) (by decide), by omega, ?_⟩
    · rw [List.mem_singleton.mp hs]
      exact ⟨hlo.ht (by decide) (by decide), hhi.ht (by decide) (by decide), Ht.int (i := 1) (by unfold Sm; decide) (by decide)⟩
    · simp only [List.length_nil, List.length_singleton]
      omega
  have e2 : ((lagP pts p).map fun c => (vq c, c)).map (·.2) = lagP pts p := by rw [List.map_map]; exact List.map_id _
  have e1 : ((lagP pts p).map fun c => (vq c, c)).map (·.1) = (lagP pts p).map vq := by rw [List.map_map]; rfl
  have key := v_told (lo := lo) (hi := hi) (ws := []) (ss := [(lo, hi, 1)]) (e := .lst ((lagP pts p).map vq)) (cp := (lagP pts p).map fun c => (vq c, c)) (kp := 68) (kw := 2) (kc := 275) (ki := 3) (by rw [e1]; rfl) (fun c hc => by
    obtain ⟨x, _, rfl⟩ := List.mem_map.mp hc
    exact isV_vq x) (by rw [e2]; exact T)
  rw [e2, tol_areaX] at key
  exact key
theorem best_stepX {x0 x1 x2 x3 x4 e6 : Ent} {lo hi : Rat} {pts : List Rat} (h : PtsX lo hi pts) (hlo : Dv 7200000000000000000 130000000000000000000 lo) (hhi : Dv 7200000000000000000 130000000000000000000 hi) {p : Rat} (hp : p ∈ pts) {acc : List Wt} (ha : acc.length ≤ 100) (h6 : e6 = .ow (.o 0 (rlL lo hi [] [(lo, hi, 1)])) ∨ e6 = .im (.obj 0 (rlL lo hi [] [(lo, hi, 1)]))) :
    b_best_1 [x0, x1, x2, x3, x4, .im (.lst (pts.map vq)), e6, .ol (acc.map wD), .im (vq p), .un] = some (.nx, [x0, x1, x2, x3, x4, .im (.lst (pts.map vq)), .im (.obj 0 (rlL lo hi [] [(lo, hi, 1)])), .ol ((acc ++ [(p, lagWX lo hi pts p)]).map wD), .im (vq p), .un]) := by
  have hx6 : xv 6 [x0, x1, x2, x3, x4, .im (.lst (pts.map vq)), e6, .ol (acc.map wD), .im (vq p), .un] = some (.im (.obj 0 (rlL lo hi [] [(lo, hi, 1)])), [x0, x1, x2, x3, x4, .im (.lst (pts.map vq)), .im (.obj 0 (rlL lo hi [] [(lo, hi, 1)])), .ol (acc.map wD), .im (vq p), .un]) := by
    rcases h6 with rfl | rfl <;> rfl
  have nl := h.2.2
  have c1 : xlc (xseqI (xv 5)) (tgn 9) (xtest (xop opNe (xv 9) (xv 8))) (xv 9) [9] [x0, x1, x2, x3, x4, .im (.lst (pts.map vq)), .im (.obj 0 (rlL lo hi [] [(lo, hi, 1)])), .ol (acc.map wD), .im (vq p), .un] =
      some (.ol ((oth pts p).map vq), [x0, x1, x2, x3, x4, .im (.lst (pts.map vq)), .im (.obj 0 (rlL lo hi [] [(lo, hi, 1)])), .ol (acc.map wD), .im (vq p), .un]) := by
    refine xlc_un (ds := pts.map vq) (by rfl) rfl rfl rfl (xlcL_fm (en := vq) (fun q : Rat => !decide (q = p)) vq fun q hq => ?_) (by rw [List.length_map]; exact Nat.le_trans (List.length_filter_le _ _) (by omega))
    exact ⟨[x0, x1, x2, x3, x4, .im (.lst (pts.map vq)), .im (.obj 0 (rlL lo hi [] [(lo, hi, 1)])), .ol (acc.map wD), .im (vq p), .im (vq q)], _, rfl, xtest_ok (xo2 rfl rfl (ne_vq q p)), fun _ => rfl, fun _ => ⟨_, _, rfl, rfl, rfl⟩⟩
  have po := v_powers_ofX (p := p) (d := .lst ((oth pts p).map vq)) (os := oth pts p) rfl (h.2.1 p hp).1 (h.oth hp).1 (h.oth hp).2
  unfold b_best_1
  refine xapp_ok (bs := acc.map wD) rfl (xtup_ok (xc1 (d := vq p) rfl (xc1 (xcall_ok (xc1 hx6 (xcw (xcall_ok (xc1 (d := vq p) rfl (xcw c1 xnil_ok)) po) xnil_ok)) (lagP_toldX h hlo hhi hp)) xnil_ok)) rfl) rfl rfl (by rw [List.length_map]; omega) ?_
  rw [List.map_append]
  rfl
theorem best_loopX {x0 x1 x2 x3 x4 : Ent} {lo hi : Rat} {pts : List Rat} (h : PtsX lo hi pts) (hlo : Dv 7200000000000000000 130000000000000000000 lo) (hhi : Dv 7200000000000000000 130000000000000000000 hi) : ∀ (l : List Rat) (acc : List Wt) (e6 e8 : Ent), (∀ p ∈ l, p ∈ pts) → acc.length + l.length ≤ 100 → (e6 = .ow (.o 0 (rlL lo hi [] [(lo, hi, 1)])) ∨ e6 = .im (.obj 0 (rlL lo hi [] [(lo, hi, 1)]))) →
    ∃ e6' e8', xforL (tgn 8) b_best_1 (l.map vq) [x0, x1, x2, x3, x4, .im (.lst (pts.map vq)), e6, .ol (acc.map wD), e8, .un] = some (.nx, [x0, x1, x2, x3, x4, .im (.lst (pts.map vq)), e6', .ol ((acc ++ l.map fun p => (p, lagWX lo hi pts p)).map wD), e8', .un])
  | [], acc, e6, e8, _, _, _ => ⟨e6, e8, by rw [show acc ++ List.map (fun p => (p, lagWX lo hi pts p)) [] = acc from List.append_nil _]; rfl⟩
  | p :: l, acc, e6, e8, hl, hn, h6 => by
    rw [List.length_cons] at hn
    obtain ⟨f6, f8, ih⟩ := best_loopX (x0 := x0) (x1 := x1) (x2 := x2) (x3 := x3) (x4 := x4) h hlo hhi l (acc ++ [(p, lagWX lo hi pts p)]) _ (.im (vq p)) (fun q hq => hl q (List.mem_cons_of_mem _ hq)) (by rw [List.length_append, List.length_singleton]; omega) (.inr rfl)
    rw [List.append_assoc] at ih
    exact ⟨f6, f8, (xforL_nx rfl (best_stepX h hlo hhi (hl p List.mem_cons_self) (by omega) h6)).trans ih⟩
theorem v_bestX {d1 d2 d3 : D} {lo hi : Rat} {ps : List (D × Rat)} (h1 : IsV d1 lo) (h2 : IsV d2 hi) (hlo : Dv 7200000000000000000 130000000000000000000 lo) (hhi : Dv 7200000000000000000 130000000000000000000 hi) (hl : lo < hi) (h3 : isSq d3 (ps.map (·.1))) (hp : ∀ p ∈ ps, IsV p.1 p.2) (h : PtsX lo hi (ps.map (·.2))) (hn : 0 < ps.length) :
    r_best [d1, d2, d3] = some (.ow (.o 0 (rlL lo hi (lwOf (bestWX lo hi (ps.map (·.2)))) []))) := by
  have g1 := hlo.ht (k := 68) (by decide) (by decide)
  have g2 := hhi.ht (k := 68) (by decide) (by decide)
  have nn : ps.length ≤ 5 := by have := h.2.2; rwa [List.length_map] at this
  have np := v_need_pointsX (d := d3) (ps := ps) g1 g2 h3 (fun p hm => by
    have := h.2.1 p.2 (List.mem_map.mpr ⟨p, hm, rfl⟩)
    exact ⟨hp p hm, this.1.ht (by decide) (by decide), this.2.1, this.2.2⟩) h.1 hn (by omega)
  have ns := v_need_stretch h1 h2 g1 g2 (by decide) hl
  have ar := v_area (isV_vq lo) (isV_vq hi) g1 g2 hl (by decide) (by decide)
  rw [ls_oneX hl, show lwOf [] = [] from rfl] at ar
  have hlen : (ps.map (·.2)).length ≤ 5 := h.2.2
  clear hp h3
  generalize ps.map (·.2) = pts at h np hlen ⊢
  obtain ⟨e6, e8, lp⟩ := best_loopX (x0 := .im d1) (x1 := .im d2) (x2 := .im d3) (x3 := .im (vq lo)) (x4 := .im (vq hi)) h hlo hhi pts [] (.ow (.o 0 (rlL lo hi [] [(lo, hi, 1)]))) .un (fun _ hp => hp) (by simp only [List.length_nil]; omega) (.inl rfl)
  rw [List.nil_append] at lp
  have e1 : ((bestWX lo hi pts).map fun w => (wD w, w)).map (·.1) = (bestWX lo hi pts).map wD := by rw [List.map_map]; rfl
  have e2 : ((bestWX lo hi pts).map fun w => (wD w, w)).map (·.2) = bestWX lo hi pts := by rw [List.map_map]; exact List.map_id _
  have bl : (bestWX lo hi pts).length = pts.length := List.length_map _
  have bm : ∀ w ∈ bestWX lo hi pts, w.1 ∈ pts ∧ w.2 = lagWX lo hi pts w.1 := fun w hw => by
    obtain ⟨p, hp, rfl⟩ := List.mem_map.mp hw
    exact ⟨hp, rfl⟩
  have key := v_Rule_init (d1 := vq lo) (d2 := vq hi) (d3 := .lst ((bestWX lo hi pts).map wD)) (d4 := .tup []) (ps := (bestWX lo hi pts).map fun w => (wD w, w)) (qs := []) (k := 780) (isV_vq lo) (isV_vq hi) (g1.up (by decide)) (g2.up (by decide)) hl (.inl (by rw [e1])) (.inr (.inl rfl))
    (fun p hp => by obtain ⟨w, _, rfl⟩ := List.mem_map.mp hp; exact wr_wD w) (by simp)
    (fun p hp => by
      obtain ⟨w, hw, rfl⟩ := List.mem_map.mp hp
      obtain ⟨b1, b2⟩ := bm w hw
      exact ⟨(h.2.1 _ b1).1.ht (by decide) (by decide), by show Ht w.2 780; rw [b2]; exact h.w hlo hhi b1⟩) (by simp)
    (fun p hp => by
      obtain ⟨w, hw, rfl⟩ := List.mem_map.mp hp
      exact (h.2.1 _ (bm w hw).1).2) (by simp) (by rw [List.length_map, bl]; omega) (by simp only [List.length_nil]; omega)
  rw [e2] at key
  have a6 : xcall r_area (xcons (xv 3) (xcons (xv 4) xnil)) [.im d1, .im d2, .im d3, .im (vq lo), .im (vq hi), .ol (pts.map vq), .un, .un, .un, .un] = some (.ow (.o 0 (rlL lo hi [] [(lo, hi, 1)])), [.im d1, .im d2, .im d3, .im (vq lo), .im (vq hi), .ol (pts.map vq), .un, .un, .un, .un]) := xcall_ok (xc1 rfl (xc1 rfl xnil_ok)) ar
  have a7 : xlst xnil [.im d1, .im d2, .im d3, .im (vq lo), .im (vq hi), .ol (pts.map vq), .un, .un, .un, .un] = some (.ol [], [.im d1, .im d2, .im d3, .im (vq lo), .im (vq hi), .ol (pts.map vq), .un, .un, .un, .un]) := rfl
  have s6 : ypar 6 7 (ycons (xcall r_area (xcons (xv 3) (xcons (xv 4) xnil))) (ycons (xlst xnil) ynil)) [.im d1, .im d2, .im d3, .im (vq lo), .im (vq hi), .ol (pts.map vq), .un, .un, .un, .un] = some (.nx, [.im d1, .im d2, .im d3, .im (vq lo), .im (vq hi), .ol (pts.map vq), .ow (.o 0 (rlL lo hi [] [(lo, hi, 1)])), .ol (([] : List Wt).map wD), .un, .un]) :=
    ypar_ok (y := .ol []) (ycons_ok a6 (ycons_ok a7 ynil_ok))
  refine runF_st rfl ?_
  refine st_nx (G1 := [.im d1, .im d2, .im d3, .im (vq lo), .im (vq hi), .un, .un, .un, .un, .un]) (by exact xasg_ok (xcall_ok (xc1 rfl (xc1 rfl xnil_ok)) ns) rfl) ?_
  refine st_nx (G1 := [.im d1, .im d2, .im d3, .im (vq lo), .im (vq hi), .ol (pts.map vq), .un, .un, .un, .un]) (by exact xset_e (xcall_ok (xc1 rfl (xc1 rfl (xc1 rfl xnil_ok))) np) rfl) ?_
  refine st_nx (G1 := [.im d1, .im d2, .im d3, .im (vq lo), .im (vq hi), .ol (pts.map vq), .ow (.o 0 (rlL lo hi [] [(lo, hi, 1)])), .ol (([] : List Wt).map wD), .un, .un]) (by exact s6) ?_
  refine st_nx (by exact xfor_ok (ds := pts.map vq) (by rfl) lp) ?_
  exact st_ret (by exact xmake_ok (xs := [vq lo, vq hi, .lst ((bestWX lo hi pts).map wD)]) (by rfl) key)
end Bk
namespace Bk
open PySem L2
section
variable {lo hi : Rat} (h1 : Ht lo 40) (h2 : Ht hi 40)
include h1 h2
theorem inB_not {q : Rat} : (decide (q < lo) || decide (hi < q)) = !inB lo hi q := by
  unfold inB
  cases decide (q < lo) <;> cases decide (hi < q) <;> rfl
/-- the last point that the law keeps -/
def lastD (l : Option Rat) : D := match l with
  | some q => vq q
  | none => .non
theorem due_1 {x L : D} {c last : Option Rat} {i : Nat} {e6 : Ent} (hx : PV lo hi x c) (hl : ∀ l, last = some l → Ht l 60) :
    ∃ e6', b_w_due_1 [.im L, .im (vq lo), .im (vq hi), .im (lastD last), .im (.int i), .im x, e6] = some (if bad1 lo hi last c then .rt (.im (.int i)) else .nx, [.im L, .im (vq lo), .im (vq hi), .im (if bad1 lo hi last c then lastD last else lastD c), .im (.int i), .im x, e6']) := by
  cases c with
  | none =>
    have hn : NoV x := hx
    refine ⟨.im .non, ?_⟩
    unfold b_w_due_1
    rw [xseq_nx (show _ = some (Fl.nx, [.im L, .im (vq lo), .im (vq hi), .im (lastD last), .im (.int i), .im x, .im .non]) from xset_e (xcall_ok (xc1 rfl xnil_ok) hn.w) rfl)]
    exact xseq_rt (by rfl)
  | some q =>
    obtain ⟨v, hq, _⟩ : IsV x q ∧ Ht q 60 ∧ (lo ≤ q → q ≤ hi → Dv 7200000000000000000 130000000000000000000 q) := hx
    refine ⟨.im (vq q), ?_⟩
    have s1 : xset 6 (xcall r_w_pair (xcons (xv 5) xnil)) [.im L, .im (vq lo), .im (vq hi), .im (lastD last), .im (.int i), .im x, e6] = some (.nx, [.im L, .im (vq lo), .im (vq hi), .im (lastD last), .im (.int i), .im x, .im (vq q)]) := xset_e (xcall_ok (xc1 rfl xnil_ok) (v_w_pair v)) rfl
    have t1 : xtor (xtest (xop opIs (xv 6) (xc .non))) (xtor (xtru (xcall r_w_less (xcons (xv 6) (xcons (xv 1) xnil)))) (xtru (xcall r_w_less (xcons (xv 2) (xcons (xv 6) xnil))))) [.im L, .im (vq lo), .im (vq hi), .im (lastD last), .im (.int i), .im x, .im (vq q)] = some (!inB lo hi q, [.im L, .im (vq lo), .im (vq hi), .im (lastD last), .im (.int i), .im x, .im (vq q)]) := by
      rw [← inB_not h1 h2]
      exact xtor_b (k := false) (by rfl) (xtor_b (xtrub (xcall_ok (xc1 rfl (xc1 rfl xnil_ok)) (v_w_less hq h1 (by decide)))) (xtrub (xcall_ok (xc1 rfl (xc1 rfl xnil_ok)) (v_w_less h2 hq (by decide)))))
    have t2 : xtand (xtest (xop opIsNot (xv 3) (xc .non))) (xtnot (xtru (xcall r_w_less (xcons (xv 3) (xcons (xv 6) xnil))))) [.im L, .im (vq lo), .im (vq hi), .im (lastD last), .im (.int i), .im x, .im (vq q)] = some (ltB last q, [.im L, .im (vq lo), .im (vq hi), .im (lastD last), .im (.int i), .im x, .im (vq q)]) := by
      cases last with
      | none => rfl
      | some l => exact (xtand_t (by rfl)).trans (xtnot_ok (xtrub (xcall_ok (xc1 rfl (xc1 rfl xnil_ok)) (v_w_less (hl l rfl) hq (by decide)))))
    unfold b_w_due_1
    rw [xseq_nx s1]
    have eb : bad1 lo hi last (some q) = (!inB lo hi q || ltB last q) := rfl
    rw [eb]
    cases e1 : inB lo hi q with
    | false =>
      rw [e1] at t1
      exact xseq_rt ((xifs_ok t1).trans rfl)
    | true =>
      rw [e1] at t1
      rw [xseq_nx ((xifs_ok t1).trans rfl)]
      generalize ltB last q = k at t2 ⊢
      cases k with
      | true => exact xseq_rt ((xifs_ok t2).trans rfl)
      | false =>
        rw [xseq_nx ((xifs_ok t2).trans rfl)]
        rfl
theorem due_l {L : D} : ∀ (xs : List (D × Option Rat)) (last : Option Rat) (i : Nat) (e4 e5 e6 : Ent), (∀ p ∈ xs, PV lo hi p.1 p.2) → (∀ l, last = some l → Ht l 60) →
    ∃ G', xforL (tgt [(tgn 4), (tgn 5)]) b_w_due_1 (enumD i (xs.map (·.1))) [.im L, .im (vq lo), .im (vq hi), .im (lastD last), e4, e5, e6] = some (match wr lo hi last i (xs.map (·.2)) with | some j => .rt (.im (.int j)) | none => .nx, G')
  | [], last, i, e4, e5, e6, _, _ => ⟨_, rfl⟩
  | p :: xs, last, i, e4, e5, e6, hp, hl => by
    obtain ⟨e6', h⟩ := due_1 h1 h2 (L := L) (i := i) (e6 := e6) (hp p List.mem_cons_self) hl
    show ∃ G', xforL (tgt [(tgn 4), (tgn 5)]) b_w_due_1 (.tup [.int i, p.1] :: enumD (i + 1) (xs.map (·.1))) _ = some (match (if bad1 lo hi last p.2 then some i else wr lo hi p.2 (i + 1) (xs.map (·.2))) with | some j => .rt (.im (.int j)) | none => .nx, G')
    cases hb : bad1 lo hi last p.2 with
    | true =>
      rw [hb] at h
      exact ⟨_, xforL_rt9 rfl h⟩
    | false =>
      rw [hb] at h
      obtain ⟨G', ih⟩ := due_l (L := L) xs p.2 (i + 1) (.im (.int i)) (.im p.1) e6' (fun z hz => hp z (List.mem_cons_of_mem _ hz)) (fun l hl2 => by
        have := hp p List.mem_cons_self
        rw [hl2] at this
        exact this.2.1)
      exact ⟨G', (xforL_nx rfl h).trans ih⟩
/-- points: a sequence of things of any kind, not too long -/
theorem due_s {c : D} {xs : List (D × Option Rat)} (hc : isSq c (xs.map (·.1))) (hp : ∀ p ∈ xs, PV lo hi p.1 p.2) (hn : xs ≠ []) : r_w_due [c, vq lo, vq hi] = some (.im (match wr lo hi none 0 (xs.map (·.2)) with | some j => .int j | none => .non)) := by
  obtain ⟨G', h⟩ := due_l h1 h2 (L := c) xs none 0 .un .un .un hp (fun l hl => by cases hl)
  have s1 : xifs (xtor (xtnot (xtru (xcb cbIsiS (xcons (xv 0) (xcons (xtup (xcons (xc (.ty "list")) (xcons (xc (.ty "tuple")) xnil))) xnil))))) (xtest (xop opEq (xcb cbLen (xcons (xv 0) xnil)) (xc (.int 0))))) (xret (xc (.int 0))) xnext (pad 7 [c, vq lo, vq hi]) = some (.nx, pad 7 [c, vq lo, vq hi]) := by
    obtain ⟨p, ps, rfl⟩ : ∃ p ps, xs = p :: ps := by
      cases xs with
      | nil => exact absurd rfl hn
      | cons p ps => exact ⟨p, ps, rfl⟩
    rcases hc with rfl | rfl | rfl
    · rfl
    · rfl
    · rfl
  refine runF_st rfl (st_nx s1 (st_nx (G1 := [.im c, .im (vq lo), .im (vq hi), .im .non, .un, .un, .un]) (by rfl) ?_))
  have it : xenumA (xcons (xv 0) xnil) [.im c, .im (vq lo), .im (vq hi), .im .non, .un, .un, .un] = some (enumD 0 (xs.map (·.1)), [.im c, .im (vq lo), .im (vq hi), .im .non, .un, .un, .un]) := by
    rcases hc with rfl | rfl | rfl <;> rfl
  generalize wr lo hi none 0 (xs.map (·.2)) = w at h ⊢
  cases w with
  | none => exact st_nx (xfor_ok it h) (by rfl)
  | some j => exact st_rt (xfor_ok it h)
end
end Bk
namespace Bk
open PySem L2
theorem eseq_0 {ea : MX} {a : MS} {G : Gam} (h : ea G = none) : eseq ea a enone G = none := by
  unfold eseq
  rw [h]
  simp only
  split <;> rfl
section
variable {lo hi : Rat} (h1 : Ht lo 40) (h2 : Ht hi 40)
def NoS (c : D) : Prop := r_is_sequence [c] = some (.im (.bl false)) ∧ cbIsiS [c, .tup [.ty "list", .ty "tuple"]] = some (.im (.bl false))
theorem np_0 {a b c : D} (h : xtor (xtnot (xtru (xcall r_is_sequence (xcons (xv 2) xnil)))) (xtest (xop opEq (xcb cbLen (xcons (xv 2) xnil)) (xc (.int 0)))) (pad 6 [a, b, c]) = some (true, pad 6 [a, b, c])) : e_need_points [a, b, c] = some ⟨2, some (.int 0)⟩ :=
  runE_st (G' := pad 6 [a, b, c]) rfl (eseq_1 ((eifs_k h).trans rfl))
include h1 h2
theorem np_s {c : D} {xs : List (D × Option Rat)} (hc : isSq c (xs.map (·.1))) (hp : ∀ p ∈ xs, PV lo hi p.1 p.2) (hn : xs ≠ []) (hl : xs.length ≤ 900) :
    e_need_points [vq lo, vq hi, c] = (wr lo hi none 0 (xs.map (·.2))).map fun i => ⟨2, some (.int i)⟩ := by
  have t : xtor (xtnot (xtru (xcall r_is_sequence (xcons (xv 2) xnil)))) (xtest (xop opEq (xcb cbLen (xcons (xv 2) xnil)) (xc (.int 0)))) (pad 6 [vq lo, vq hi, c]) = some (false, pad 6 [vq lo, vq hi, c]) := by
    refine xtor_b (k := false) (l := false) (xtnot_ok (k := true) (xtrub (xcall_ok (xc1 rfl xnil_ok) (v_is_sequence hc)))) ?_
    obtain ⟨p, ps, rfl⟩ : ∃ p ps, xs = p :: ps := by
      cases xs with
      | nil => exact absurd rfl hn
      | cons p ps => exact ⟨p, ps, rfl⟩
    rcases hc with rfl | rfl | rfl
    · rfl
    · rfl
    · rfl
  have it : xenumA (xcons (xv 2) xnil) [.im (vq lo), .im (vq hi), .im c, .ol [], .un, .un] = some (enumD 0 (xs.map (·.1)), [.im (vq lo), .im (vq hi), .im c, .ol [], .un, .un]) := by
    rcases hc with rfl | rfl | rfl <;> rfl
  have lp := np_e h1 h2 (L := c) xs [] .un .un hp (fun q hq => by cases hq) (by show 0 + xs.length ≤ 1000; omega) _ _ rfl rfl
  have lp : (match wr lo hi none 0 (xs.map (·.2)) with
      | some i => ∃ G', eforL _ _ _ (enumD 0 (xs.map (·.1))) [.im (vq lo), .im (vq hi), .im c, .ol [], .un, .un] = some (⟨2, some (.int i)⟩, G')
      | none => eforL _ _ _ (enumD 0 (xs.map (·.1))) [.im (vq lo), .im (vq hi), .im c, .ol [], .un, .un] = none) := lp
  have key : ∀ (o : Option (Ex × Gam)) (tg : D → Gam → Option Gam) (b : MS) (eb : MX), eforL tg b eb (enumD 0 (xs.map (·.1))) [.im (vq lo), .im (vq hi), .im c, .ol [], .un, .un] = o → efor (xenumA (xcons (xv 2) xnil)) tg b eb [.im (vq lo), .im (vq hi), .im c, .ol [], .un, .un] = o := fun o tg b eb ho => by
    unfold efor
    rw [it]
    exact ho
  generalize wr lo hi none 0 (xs.map (·.2)) = w at lp ⊢
  cases w with
  | some i =>
    obtain ⟨G', lp⟩ := lp
    exact runE_st rfl (eseq_2 ((eifs_k t).trans rfl) ((xifs_ok t).trans rfl) (eseq_2 (G1 := [.im (vq lo), .im (vq hi), .im c, .ol [], .un, .un]) rfl (by rfl) (eseq_1 (key _ _ _ _ lp))))
  | none =>
    refine runE_no ?_
    refine eseq_2 ((eifs_k t).trans rfl) ((xifs_ok t).trans rfl) (eseq_2 (G1 := [.im (vq lo), .im (vq hi), .im c, .ol [], .un, .un]) rfl (by rfl) ?_)
    exact eseq_0 (key _ _ _ _ lp)
/-- best, its stretch refused -/
theorem eb_need {a b c : D} {x : Ex} (h : e_need_stretch [a, b] = some x) : e_best [a, b, c] = some x :=
  runE_st (G' := pad 10 [a, b, c]) rfl (eseq_1 ((ecall_k (G1 := pad 10 [a, b, c]) (xc1 rfl (xc1 rfl xnil_ok)) h).trans rfl))
theorem eb_pts (hl : lo < hi) {c : D} {o : Option Ex} (h : e_need_points [vq lo, vq hi, c] = o) : e_best [vq lo, vq hi, c] = o := by
  have e0 : e_need_stretch [vq lo, vq hi] = none := by
    have := en_rest (b := vq hi) (isV_vq lo) (need_v2 (isV_vq lo) (isV_vq hi) h1 h2)
    rw [decide_eq_true hl] at this
    exact this
  have n1 : xasg (xcall r_need_stretch (xcons (xv 0) (xcons (xv 1) xnil))) (tgt [(tgn 3), (tgn 4)]) (pad 10 [vq lo, vq hi, c]) = some (.nx, [.im (vq lo), .im (vq hi), .im c, .im (vq lo), .im (vq hi), .un, .un, .un, .un, .un]) :=
    xasg_ok (xcall_ok (xc1 rfl (xc1 rfl xnil_ok)) (v_need_stretch (isV_vq lo) (isV_vq hi) h1 h2 (by omega) hl)) rfl
  have k := ecall_k (G1 := pad 10 [vq lo, vq hi, c]) (G := pad 10 [vq lo, vq hi, c]) (a := xcons (xv 0) (xcons (xv 1) xnil)) rfl e0
  have p := ecall_k (G := [.im (vq lo), .im (vq hi), .im c, .im (vq lo), .im (vq hi), .un, .un, .un, .un, .un]) (G1 := [.im (vq lo), .im (vq hi), .im c, .im (vq lo), .im (vq hi), .un, .un, .un, .un, .un]) (a := xcons (xv 3) (xcons (xv 4) (xcons (xv 2) xnil))) rfl h
  cases o with
  | some x => exact runE_st rfl (eseq_2 (k.trans rfl) n1 (eseq_1 (p.trans rfl)))
  | none =>
    refine runE_no (eseq_2 (k.trans rfl) n1 ?_)
    exact eseq_0 p
end
theorem hd_args {a b c : D} : (xcons (xv 0) (xcons (xv 1) (xcons (xv 2) xnil))) [.im a, .im b, .im c, .im .non, .un] = some ([a, b, c], [.im a, .im b, .im c, .im .non, .un]) := rfl
theorem heard_w {a b c : D} {w : PySem.Str} (h : e_best [a, b, c] = some ⟨0, some (.str w)⟩) : r_w_heard [a, b, c] = some (.im (.str w)) := by
  refine runF_st rfl (st_nx (G1 := [.im a, .im b, .im c, .im .non, .un]) (by rfl) (st_nx (G1 := [.im a, .im b, .im c, .im (.str w), .un]) ?_ (by rfl)))
  exact xtry_x (x := ⟨0, some (.str w)⟩) (G1 := [.im a, .im b, .im c, .im .non, .un]) ((ecall_k hd_args h).trans rfl) (List.mem_cons_self) (by show 4 < 5; decide) (by rfl)
theorem heard_i {a b c : D} {i : Int} (h : e_best [a, b, c] = some ⟨2, some (.int i)⟩) : r_w_heard [a, b, c] = some (.im (.int i)) := by
  refine runF_st rfl (st_nx (G1 := [.im a, .im b, .im c, .im .non, .un]) (by rfl) (st_nx (G1 := [.im a, .im b, .im c, .im (.int i), .un]) ?_ (by rfl)))
  exact xtry_x (x := ⟨2, some (.int i)⟩) (G1 := [.im a, .im b, .im c, .im .non, .un]) ((ecall_k hd_args h).trans rfl) (List.mem_cons_of_mem _ List.mem_cons_self) (by show 4 < 5; decide) (by rfl)
theorem heard_n {a b c : D} {r : R} (h : e_best [a, b, c] = none) (h' : r_best [a, b, c] = some r) : r_w_heard [a, b, c] = some (.im .non) := by
  refine runF_st rfl (st_nx (G1 := [.im a, .im b, .im c, .im .non, .un]) (by rfl) (st_nx (G1 := [.im a, .im b, .im c, .im .non, .un]) ?_ (by rfl)))
  exact xtry_n ((ecall_k hd_args h).trans rfl) (xdrop_ok (xcall_ok hd_args h'))
theorem wr_none {lo hi : Rat} : ∀ {cs : List (Option Rat)} {last : Option Rat} {i : Nat}, wr lo hi last i cs = none → ∃ qs : List Rat, cs = qs.map some ∧ (∀ q ∈ qs, lo ≤ q ∧ q ≤ hi) ∧ (last.toList ++ qs).Pairwise (· < ·)
  | [], last, i, _ => ⟨[], rfl, (fun q hq => by cases hq), by cases last <;> simp⟩
  | c :: cs, last, i, h => by
    have h : (if bad1 lo hi last c then some i else wr lo hi c (i + 1) cs) = none := h
    cases hb : bad1 lo hi last c with
    | true => rw [hb] at h; cases h
    | false =>
      rw [hb] at h
      cases c with
      | none => cases hb
      | some q =>
        obtain ⟨qs, rfl, hq, hs⟩ := wr_none h
        have hb : (!inB lo hi q || ltB last q) = false := hb
        simp only [Bool.or_eq_false_iff, Bool.not_eq_false'] at hb
        refine ⟨q :: qs, rfl, fun z hz => ?_, ?_⟩
        · rcases List.mem_cons.mp hz with rfl | hz
          · exact inB_le hb.1
          · exact hq z hz
        · have hs : (q :: qs).Pairwise (· < ·) := hs
          cases last with
          | none => exact hs
          | some l =>
            have lt : l < q := by
              have := hb.2
              unfold ltB at this
              simp only [Bool.not_eq_false', decide_eq_true_eq] at this
              exact this
            refine List.pairwise_cons.mpr ⟨fun z hz => ?_, hs⟩
            rcases List.mem_cons.mp hz with rfl | hz
            · exact lt
            · have := (List.pairwise_cons.mp hs).1 z hz
              grind
theorem wr_le {lo hi : Rat} : ∀ {cs : List (Option Rat)} {last : Option Rat} {i j : Nat}, wr lo hi last i cs = some j → j < i + cs.length
  | [], last, i, j, h => by cases h
  | c :: cs, last, i, j, h => by
    have h : (if bad1 lo hi last c then some i else wr lo hi c (i + 1) cs) = some j := h
    rw [List.length_cons]
    split at h
    · cases h
      omega
    · have := wr_le h
      omega
/-- both alike -/
theorem verdict6 {lo hi : Rat} (h1 : Ht lo 40) (h2 : Ht hi 40) (hl : lo < hi) (hlo : Dv 7200000000000000000 130000000000000000000 lo) (hhi : Dv 7200000000000000000 130000000000000000000 hi) {c : D} (hc : NoS c ∨ ∃ xs : List (D × Option Rat), isSq c (xs.map (·.1)) ∧ (∀ p ∈ xs, PV lo hi p.1 p.2) ∧ xs.length ≤ 5) :
    ∃ r, r_w_heard [vq lo, vq hi, c] = some (.im r) ∧ r_w_due [c, vq lo, vq hi] = some (.im r) ∧ (r = .non ∨ ∃ i : Nat, r = .int i ∧ i ≤ 6) := by
  rcases hc with hn | ⟨xs, hs, hp, hx⟩
  · refine ⟨.int 0, heard_i (eb_pts h1 h2 hl (np_0 (xtor_t (xtnot_ok (k := false) (xtrub (xcall_ok (xc1 rfl xnil_ok) hn.1)))))), runF_st rfl (st_rt (G1 := pad 7 [c, vq lo, vq hi]) ?_), .inr ⟨0, rfl, by decide⟩⟩
    refine (xifs_ok (k := true) (xtor_t (xtnot_ok (k := false) (xtrub (xcb_ok (xc1 rfl (xc1 (xtup_ok (xc1 rfl (xc1 rfl xnil_ok)) rfl) xnil_ok)) hn.2))))).trans rfl
  · by_cases hn : xs = []
    · subst hn
      have e0 : xtor (xtnot (xtru (xcall r_is_sequence (xcons (xv 2) xnil)))) (xtest (xop opEq (xcb cbLen (xcons (xv 2) xnil)) (xc (.int 0)))) (pad 6 [vq lo, vq hi, c]) = some (true, pad 6 [vq lo, vq hi, c]) := by
        rcases hs with rfl | rfl | rfl <;> rfl
      exact ⟨.int 0, heard_i (eb_pts h1 h2 hl (np_0 e0)), by rcases hs with rfl | rfl | rfl <;> rfl, .inr ⟨0, rfl, by decide⟩⟩
    · have e := eb_pts h1 h2 hl (np_s h1 h2 hs hp hn (by omega))
      have d := due_s h1 h2 hs hp hn
      cases hw : wr lo hi none 0 (xs.map (·.2)) with
      | some i =>
        rw [hw] at e d
        exact ⟨_, heard_i e, d, .inr ⟨i, rfl, by
          have := wr_le hw
          rw [List.length_map] at this
          omega⟩⟩
      | none =>
        rw [hw] at e d
        obtain ⟨qs, hq, hin, hso⟩ := wr_none hw
        have ps : ∃ ps : List (D × Rat), xs = ps.map (fun p => (p.1, some p.2)) ∧ ps.map (·.2) = qs := by
          clear hs hp hx hn e d hw hin hso
          induction xs generalizing qs with
          | nil => cases qs with
            | nil => exact ⟨[], rfl, rfl⟩
            | cons q qs => cases hq
          | cons x xs ih => cases qs with
            | nil => cases hq
            | cons q qs =>
              rw [List.map_cons, List.map_cons] at hq
              obtain ⟨e1, e2⟩ := List.cons.inj hq
              obtain ⟨ps, p1, p2⟩ := ih qs e2
              exact ⟨(x.1, q) :: ps, by rw [List.map_cons, ← p1, ← e1], by rw [List.map_cons, p2]⟩
        obtain ⟨ps, rfl, rfl⟩ := ps
        have em : (ps.map (fun p => (p.1, some p.2))).map (·.1) = ps.map (·.1) := by rw [List.map_map]; rfl
        rw [em] at hs
        rw [List.length_map] at hx
        have pv : ∀ p ∈ ps, IsV p.1 p.2 ∧ Ht p.2 60 ∧ (lo ≤ p.2 → p.2 ≤ hi → Dv 7200000000000000000 130000000000000000000 p.2) := fun p h => hp _ (List.mem_map.mpr ⟨p, h, rfl⟩)
        have b := v_bestX (ps := ps) (isV_vq lo) (isV_vq hi) hlo hhi hl hs (fun p h => (pv p h).1) ⟨hso, fun q h => by
          obtain ⟨p, hp9, rfl⟩ := List.mem_map.mp h
          obtain ⟨a1, a2⟩ := hin _ h
          exact ⟨(pv p hp9).2.2 a1 a2, a1, a2⟩, by rw [List.length_map]; exact hx⟩ (List.length_pos_iff.mpr fun z => hn (by rw [z]; rfl))
        exact ⟨.non, heard_n e b, d, .inl rfl⟩
end Bk
namespace Bk
open PySem L2
def A16 : List D := [.non, .bl true, .bl false, .int 0, .int 1, .int (-3), .int 100000000000000000, .str "", .str "a", .str "rule 0 1", .str "1/2", .tup [.int 1, .int 2], .tup [.int 2, .int 4], .tup [.int 1, .int 0], .tup [], .lst []]
/-- what _law_anything gives, down to a depth -/
inductive Any : Nat → D → Prop
  | c {n : Nat} {d : D} (h : d ∈ A16) : Any n d
  | t {n : Nat} {xs : List D} (h : ∀ x ∈ xs, Any n x) (l : xs.length ≤ 2) : Any (n + 1) (.tup xs)
  | l {n : Nat} {xs : List D} (h : ∀ x ∈ xs, Any n x) (l : xs.length ≤ 2) : Any (n + 1) (.lst xs)
theorem Any.up {n m : Nat} {d : D} (h : Any n d) (hm : n ≤ m) : Any m d := by
  induction h generalizing m with
  | c h => exact .c h
  | @t n xs h l ih =>
    obtain ⟨k, rfl⟩ : ∃ k, m = k + 1 := ⟨m - 1, by omega⟩
    exact .t (fun x hx => ih x hx (by omega)) l
  | @l n xs h l ih =>
    obtain ⟨k, rfl⟩ : ∃ k, m = k + 1 := ⟨m - 1, by omega⟩
    exact .l (fun x hx => ih x hx (by omega)) l
/-- it is told in plain data, not too deep -/
theorem strOk9 : ∀ d ∈ A16, ∃ p, toPy d = some p ∧ p.canLay0 = true ∧ p.depth ≤ 10 := fun d h => by
  simp only [A16, List.mem_cons, List.not_mem_nil, or_false] at h
  rcases h with rfl | rfl | rfl | rfl | rfl | rfl | rfl | rfl | rfl | rfl | rfl | rfl | rfl | rfl | rfl | rfl <;> exact ⟨_, rfl, by decide +kernel, by decide +kernel⟩
theorem pair_ints {a b : Int} (h : ¬ (0 < b ∧ Nat.gcd a.natAbs b.natAbs = 1)) : NoV (.tup [.int a, .int b]) := by
  have dv := v_divisor a b
  have dw := v_w_divisor a b
  refine ⟨?_, ?_⟩
  · refine runF_st rfl (st_ret (G1 := [.im (.tup [.int a, .int b])]) ?_)
    refine (xvor_f (by rfl)).trans (xcall_ok (xc1 rfl xnil_ok) ?_)
    refine runF_st rfl (st_nx (G1 := [.im (.tup [.int a, .int b]), .un]) (by rfl) (st_ret (G1 := [.im (.tup [.int a, .int b]), .un]) ?_))
    have t1 : xop opGt (xop opIx (xv 0) (xc (.int 1))) (xc (.int 0)) [.im (.tup [.int a, .int b]), .un] = some (.im (.bl (decide (0 < b))), [.im (.tup [.int a, .int b]), .un]) := rfl
    by_cases hb : 0 < b
    · rw [decide_eq_true hb] at t1
      refine xvand_t t1 (xo2 (xcall_ok (xc1 (xo2 (x := .tup [.int a, .int b]) (y := .int 0) rfl rfl rfl) (xc1 (xo2 (x := .tup [.int a, .int b]) (y := .int 1) rfl rfl rfl) xnil_ok)) dv) rfl ?_)
      show some (R.im (D.bl (decide (((Nat.gcd a.natAbs b.natAbs : Nat) : Int) = 1)))) = _
      rw [decide_eq_false fun z => h ⟨hb, by omega⟩]
    · rw [decide_eq_false hb] at t1
      exact xvand_f t1
  · refine runF_st rfl (st_nx (G1 := [.im (.tup [.int a, .int b]), .un]) (by rfl) (st_nx (G1 := [.im (.tup [.int a, .int b]), .un]) (by rfl) ?_))
    have t3 : xtest (xop opLt (xop opIx (xv 0) (xc (.int 1))) (xc (.int 1))) [.im (.tup [.int a, .int b]), .un] = some (decide (b < 1), [.im (.tup [.int a, .int b]), .un]) := rfl
    by_cases hb : 0 < b
    · rw [decide_eq_false (by omega)] at t3
      refine st_nx (G1 := [.im (.tup [.int a, .int b]), .un]) ((xifs_ok (k := false) (xtor_b (k := false) (l := false) (by rfl) t3)).trans rfl) (st_ret ((xif_ok (k := false) (xtest_ok (xo2 (xcall_ok (xc1 (xo2 (x := .tup [.int a, .int b]) (y := .int 0) rfl rfl rfl) (xc1 (xo2 (x := .tup [.int a, .int b]) (y := .int 1) rfl rfl rfl) xnil_ok)) dw) rfl ?_))).trans rfl))
      show some (R.im (D.bl (decide (((Nat.gcd a.natAbs b.natAbs : Nat) : Int) = 1)))) = _
      rw [decide_eq_false fun z => h ⟨hb, by omega⟩]
    · rw [decide_eq_true (by omega)] at t3
      exact st_rt ((xifs_ok (k := true) (xtor_b (k := false) (l := true) (by rfl) t3)).trans rfl)
theorem pair_val {a b : Int} (h : 0 < b ∧ Nat.gcd a.natAbs b.natAbs = 1) : ∃ q : Rat, IsV (.tup [.int a, .int b]) q ∧ q.num = a ∧ (q.den : Int) = b := by
  refine ⟨⟨a, b.natAbs, by omega, h.2⟩, .inr ?_, rfl, ?_⟩
  · show D.tup [.int a, .int b] = .tup [.int a, .int ((b.natAbs : Nat) : Int)]
    rw [show ((b.natAbs : Nat) : Int) = b by omega]
  · show ((b.natAbs : Nat) : Int) = b
    omega
/-- two things of which one is no whole number -/
def isI : D → Bool
  | .int _ => true
  | _ => false
def plain : D → Bool
  | .non => true
  | .bl _ => true
  | .int _ => true
  | .str _ => true
  | .lst _ => true
  | .tup _ => true
  | _ => false
theorem int_of {x : D} (h : plain x = true) : r_is_integer [x] = some (.im (.bl (isI x))) := by
  cases x <;> first | rfl | cases h | skip
theorem shp {l : List D} (h : ∀ d ∈ l, ∃ p, toPy d = some p ∧ p.canLay0 = true ∧ p.depth ≤ 40) : ∃ ps, toPys l = some ps ∧ PyData.canLayAll0 ps = true ∧ ps.length = l.length ∧ ∀ p ∈ ps, p.depth ≤ 40 := by
  induction l with
  | nil => exact ⟨[], rfl, rfl, rfl, fun p hp => by cases hp⟩
  | cons d l ih =>
    obtain ⟨p, p1, p2, p3⟩ := h d List.mem_cons_self
    obtain ⟨ps, q1, q2, q3, q4⟩ := ih fun x hx => h x (List.mem_cons_of_mem _ hx)
    refine ⟨p :: ps, ?_, ?_, by rw [List.length_cons, List.length_cons, q3], fun z hz => ?_⟩
    · unfold toPys
      rw [p1, q1]
    · show (PyData.canLay0 p && PyData.canLayAll0 ps) = true
      rw [p2, q2]
      rfl
    · rcases List.mem_cons.mp hz with rfl | hz
      · exact p3
      · exact q4 z hz
/-- lists of such things against [] -/
theorem ne_nil {l : List D} (h : ∀ d ∈ l, ∃ p, toPy d = some p ∧ p.canLay0 = true ∧ p.depth ≤ 40) : opNe (.lst l) (.lst []) = some (.im (.bl (!l.isEmpty))) := by
  obtain ⟨ps, q1, q2, q3, q4⟩ := shp h
  have da : ∀ ps : List PyData, (∀ p ∈ ps, p.depth ≤ 40) → PyData.depthAll ps ≤ 40 := fun ps => by
    induction ps with
    | nil => intro _; exact Nat.zero_le _
    | cons p ps ih =>
      intro h
      show max p.depth (PyData.depthAll ps) ≤ 40
      have := ih fun x hx => h x (List.mem_cons_of_mem _ hx)
      have := h p List.mem_cons_self
      omega
  have e1 : toPy (.lst l) = some (.list ps) := by
    unfold toPy
    rw [q1]
    rfl
  have s1 : SeqAt.shaped (.list ps) = true := by
    show (PyData.canLayAll0 ps && decide (PyData.depthAll ps + 1 ≤ 64)) = true
    rw [q2, decide_eq_true (by have := da ps q4; omega)]
    rfl
  have e : eqD (.lst l) (.lst []) = some (PyData.eqv (.list ps) (.list [])) := by
    show (match toPy (.lst l), toPy (.lst []) with
      | some p, some q => if SeqAt.shaped p && SeqAt.shaped q then some (PyData.eqv p q) else none
      | _, _ => none) = _
    rw [e1]
    show (if SeqAt.shaped (.list ps) && SeqAt.shaped (.list []) then some (PyData.eqv (.list ps) (.list [])) else none) = _
    rw [s1]
    rfl
  have v : PyData.eqv (.list ps) (.list []) = l.isEmpty := by
    cases ps with
    | nil =>
      have : l = [] := List.length_eq_zero_iff.mp q3.symm
      subst this
      simp [PyData.eqv, PyData.eqvAll]
    | cons p ps =>
      cases l with
      | nil => cases q3
      | cons d l => simp [PyData.eqv, PyData.eqvAll]
  unfold opNe
  rw [e, v]
theorem Any.py {n : Nat} {d : D} (h : Any n d) (hn : n ≤ 6) : plain d = true ∧ ∃ p, toPy d = some p ∧ p.canLay0 = true ∧ p.depth ≤ 10 + n := by
  have da : ∀ (B : Nat) (ps : List PyData), (∀ p ∈ ps, p.depth ≤ B) → PyData.depthAll ps ≤ B := fun B ps => by
    induction ps with
    | nil => intro _; exact Nat.zero_le _
    | cons p ps ih =>
      intro h
      show max p.depth (PyData.depthAll ps) ≤ B
      have := ih fun x hx => h x (List.mem_cons_of_mem _ hx)
      have := h p List.mem_cons_self
      omega
  have many : ∀ (B : Nat) (l : List D), (∀ d ∈ l, ∃ p, toPy d = some p ∧ p.canLay0 = true ∧ p.depth ≤ B) → ∃ ps, toPys l = some ps ∧ PyData.canLayAll0 ps = true ∧ ∀ p ∈ ps, p.depth ≤ B := fun B l => by
    induction l with
    | nil => intro _; exact ⟨[], rfl, rfl, fun p hp => by cases hp⟩
    | cons d l ih =>
      intro h
      obtain ⟨p, p1, p2, p3⟩ := h d List.mem_cons_self
      obtain ⟨ps, q1, q2, q4⟩ := ih fun x hx => h x (List.mem_cons_of_mem _ hx)
      refine ⟨p :: ps, ?_, ?_, fun z hz => ?_⟩
      · unfold toPys
        rw [p1, q1]
      · show (PyData.canLay0 p && PyData.canLayAll0 ps) = true
        rw [p2, q2]
        rfl
      · rcases List.mem_cons.mp hz with rfl | hz
        · exact p3
        · exact q4 z hz
  induction h with
  | @c n d h =>
    obtain ⟨p, p1, p2, p3⟩ := strOk9 d h
    refine ⟨?_, p, p1, p2, by omega⟩
    simp only [A16, List.mem_cons, List.not_mem_nil, or_false] at h
    rcases h with rfl | rfl | rfl | rfl | rfl | rfl | rfl | rfl | rfl | rfl | rfl | rfl | rfl | rfl | rfl | rfl <;> rfl
  | @t n xs h l ih =>
    obtain ⟨ps, q1, q2, q3⟩ := many (10 + n) xs fun d hd => (ih d hd (by omega)).2
    refine ⟨rfl, .tuple ps, ?_, q2, ?_⟩
    · unfold toPy
      rw [q1]
      rfl
    · show PyData.depthAll ps + 1 ≤ _
      have := da _ ps q3
      omega
  | @l n xs h l ih =>
    obtain ⟨ps, q1, q2, q3⟩ := many (10 + n) xs fun d hd => (ih d hd (by omega)).2
    refine ⟨rfl, .list ps, ?_, q2, ?_⟩
    · unfold toPy
      rw [q1]
      rfl
    · show PyData.depthAll ps + 1 ≤ _
      have := da _ ps q3
      omega
end Bk
namespace Bk
open PySem L2
theorem cbAll_2 (a b : Bool) : cbAll [.lst [.bl a, .bl b]] = some (.im (.bl (a && b))) := by
  cases a <;> cases b <;> rfl
theorem not_i {x : D} {G : Gam} (h : plain x = true) {L : D} (hG : G = [.im L, .im x]) : xtor (xtnot (xtru (xcb (cbIsiU 0) (xcons (xv 1) (xcons (xc (.ty "int")) xnil))))) (xtru (xcb (cbIsiU 0) (xcons (xv 1) (xcons (xc (.ty "bool")) xnil)))) G = some (!isI x, G) := by
  subst hG
  cases x <;> first | rfl | cases h
theorem no_ints {x y : D} (hx : plain x = true) (hy : plain y = true) (px : ∃ p, toPy x = some p ∧ p.canLay0 = true ∧ p.depth ≤ 40) (py : ∃ p, toPy y = some p ∧ p.canLay0 = true ∧ p.depth ≤ 40) (h : (isI x && isI y) = false) : NoV (.tup [x, y]) := by
  refine ⟨?_, ?_⟩
  · refine runF_st rfl (st_ret (G1 := [.im (.tup [x, y])]) ?_)
    refine (xvor_f (by rfl)).trans (xcall_ok (xc1 rfl xnil_ok) ?_)
    have lc : xlc (xseqI (xv 0)) (tgn 1) xtyes (xcall r_is_integer (xcons (xv 1) xnil)) [1] [.im (.tup [x, y]), .un] = some (.ol [.bl (isI x), .bl (isI y)], [.im (.tup [x, y]), .un]) := by
      refine xlc_un (ds := [x, y]) rfl rfl rfl rfl ((xlcL_map (fun d => D.bl (isI d)) fun d hd => ?_).trans rfl) (show 2 ≤ 100000 by decide)
      have pd : plain d = true := by
        rcases List.mem_cons.mp hd with rfl | hd
        · exact hx
        · rw [List.mem_singleton.mp hd]; exact hy
      exact ⟨_, _, _, rfl, xcall_ok (xc1 (d := d) rfl xnil_ok) (int_of pd), rfl, rfl⟩
    have t := xtnot_ok (xtrub (xcb_ok (o := cbAll) (xcw lc xnil_ok) (cbAll_2 _ _)))
    rw [h] at t
    exact runF_st rfl (st_rt ((xifs_ok (k := true) (xtor_b (k := false) (l := true) (by rfl) (xtor_b (k := false) (l := true) (by rfl) t))).trans rfl))
  · refine runF_st rfl (st_nx (G1 := [.im (.tup [x, y]), .un]) (by rfl) (st_nx (G1 := [.im (.tup [x, y]), .un]) (by rfl) (st_rt (G1 := [.im (.tup [x, y]), .un]) ?_)))
    have pl : ∀ d ∈ [x, y], plain d = true ∧ ∃ p, toPy d = some p ∧ p.canLay0 = true ∧ p.depth ≤ 40 := fun d hd => by
      rcases List.mem_cons.mp hd with rfl | hd
      · exact ⟨hx, px⟩
      · rw [List.mem_singleton.mp hd]; exact ⟨hy, py⟩
    have fm := xlcL_fm (tg := tgn 1) (t := xtor (xtnot (xtru (xcb (cbIsiU 0) (xcons (xv 1) (xcons (xc (.ty "int")) xnil))))) (xtru (xcb (cbIsiU 0) (xcons (xv 1) (xcons (xc (.ty "bool")) xnil))))) (e := xv 1) (vs := [1]) (G := [.im (.tup [x, y]), .un]) (en := fun d : D => d) (fun d => !isI d) (fun d => d) (xs := [x, y])
      (fun d hd => ⟨_, _, rfl, not_i (pl d hd).1 rfl, fun _ => rfl, fun _ => ⟨_, _, rfl, rfl, rfl⟩⟩)
    rw [List.map_id', List.map_id'] at fm
    have lc : xlc (xseqI (xv 0)) (tgn 1) (xtor (xtnot (xtru (xcb (cbIsiU 0) (xcons (xv 1) (xcons (xc (.ty "int")) xnil))))) (xtru (xcb (cbIsiU 0) (xcons (xv 1) (xcons (xc (.ty "bool")) xnil))))) (xv 1) [1] [.im (.tup [x, y]), .un] = some (.ol ([x, y].filter fun d => !isI d), [.im (.tup [x, y]), .un]) :=
      xlc_un (ds := [x, y]) rfl rfl rfl rfl fm (Nat.le_trans (List.length_filter_le _ _) (show 2 ≤ 100000 by decide))
    have ne := ne_nil (l := [x, y].filter fun d => !isI d) fun d hd => (pl d (List.mem_filter.mp hd).1).2
    have em : ([x, y].filter fun d => !isI d).isEmpty = false := by
      cases e1 : isI x <;> cases e2 : isI y <;> simp [List.filter, e1, e2] at h ⊢
    rw [em] at ne
    exact (xifs_ok (k := true) (xtor_t (xtest_ok (xop_ok lc (by rfl : xlst xnil _ = some (.ol [], _)) ne)))).trans rfl
theorem dv_of {q : Rat} {z : Int} (hz : q * (((7200000000000000000 : Nat) : Int) : Rat) = (z : Rat)) (h1 : -18 ≤ q) (h2 : q ≤ 18) : Dv 7200000000000000000 130000000000000000000 q := by
  refine ⟨by decide, z, hz, ?_⟩
  have e : (((7200000000000000000 : Nat) : Int) : Rat) = 7200000000000000000 := rfl
  rw [e] at hz
  have a1 : (z : Rat) ≤ ((129600000000000000000 : Int) : Rat) := by
    have : ((129600000000000000000 : Int) : Rat) = 129600000000000000000 := rfl
    rw [this]
    grind
  have a2 : ((-129600000000000000000 : Int) : Rat) ≤ (z : Rat) := by
    have : ((-129600000000000000000 : Int) : Rat) = -129600000000000000000 := rfl
    rw [this]
    grind
  have b1 := Rat.intCast_le_intCast.mp a1
  have b2 := Rat.intCast_le_intCast.mp a2
  omega
/-- what whole numbers it may give -/
def fourI (a : Int) : Prop := a = 0 ∨ a = 1 ∨ a = -3 ∨ a = 100000000000000000
theorem Any.int {n : Nat} {a : Int} (h : Any n (.int a)) : fourI a := by
  cases h with
  | c h =>
    simp only [A16, List.mem_cons, List.not_mem_nil, or_false, D.int.injEq, reduceCtorEq, false_or] at h
    exact h
section
variable {lo hi : Rat} (hs : ∀ q : Rat, lo ≤ q → q ≤ hi → -18 ≤ q ∧ q ≤ 18)
include hs
theorem pv_int (a : Int) (h : a.natAbs < 2 ^ 60) : PV lo hi (.int a) (some (a : Rat)) := ⟨.inl ⟨a, rfl, rfl⟩, ⟨by unfold Sm; exact h, by unfold Sm; show 1 < 2 ^ 60; decide⟩, fun l u => dv_of (z := a * 7200000000000000000) (by rw [Rat.intCast_mul]; rfl) (hs _ l u).1 (hs _ l u).2⟩
theorem pv_pair {a b e : Int} (h : 0 < b ∧ Nat.gcd a.natAbs b.natAbs = 1) (ha : a.natAbs < 2 ^ 60) (hb : b.natAbs < 2 ^ 60) (he : b * e = 7200000000000000000) : ∃ c, PV lo hi (.tup [.int a, .int b]) c := by
  obtain ⟨q, h1, h2, h3⟩ := pair_val h
  refine ⟨some q, h1, ⟨by unfold Sm; rw [h2]; exact ha, by unfold Sm; rw [h3]; exact hb⟩, fun l u => dv_of (z := a * e) ?_ (hs _ l u).1 (hs _ l u).2⟩
  have m : q * ((b : Int) : Rat) = (a : Rat) := by
    have e9 : q = (q.num : Rat) / (((q.den : Nat) : Int) : Rat) := by
      rw [← Rat.divInt_eq_div]
      exact (divInt_self q).symm
    rw [h2, h3] at e9
    have b0 : ((b : Int) : Rat) ≠ 0 := fun z => by
      have := Rat.intCast_eq_zero_iff.mp z
      omega
    rw [e9]
    generalize ((b : Int) : Rat) = y at b0
    generalize ((a : Int) : Rat) = x
    grind
  have : (((7200000000000000000 : Nat) : Int) : Rat) = ((b * e : Int) : Rat) := by rw [he]; rfl
  rw [this, Rat.intCast_mul, Rat.intCast_mul, ← m]
  grind
theorem pv_ints {a b : Int} (ha : fourI a) (hb : fourI b) : ∃ c, PV lo hi (.tup [.int a, .int b]) c := by
  have la : a.natAbs < 2 ^ 60 := by rcases ha with rfl | rfl | rfl | rfl <;> decide
  have lb : b.natAbs < 2 ^ 60 := by rcases hb with rfl | rfl | rfl | rfl <;> decide
  by_cases h : 0 < b ∧ Nat.gcd a.natAbs b.natAbs = 1
  · rcases hb with rfl | rfl | rfl | rfl
    · exact absurd h.1 (by decide)
    · exact pv_pair hs h la lb (e := 7200000000000000000) (by decide)
    · exact absurd h.1 (by decide)
    · exact pv_pair hs h la lb (e := 72) (by decide)
  · exact ⟨none, pair_ints h⟩
theorem pv_any {n : Nat} {d : D} (h : Any n d) (hn : n ≤ 6) : ∃ c, PV lo hi d c := by
  cases h with
  | c h =>
    simp only [A16, List.mem_cons, List.not_mem_nil, or_false] at h
    rcases h with rfl | rfl | rfl | rfl | rfl | rfl | rfl | rfl | rfl | rfl | rfl | rfl | rfl | rfl | rfl | rfl
    · exact ⟨none, rfl, rfl⟩
    · exact ⟨none, rfl, rfl⟩
    · exact ⟨none, rfl, rfl⟩
    · exact ⟨_, pv_int hs 0 (by decide)⟩
    · exact ⟨_, pv_int hs 1 (by decide)⟩
    · exact ⟨_, pv_int hs (-3) (by decide)⟩
    · exact ⟨_, pv_int hs 100000000000000000 (by decide)⟩
    · exact ⟨none, rfl, rfl⟩
    · exact ⟨none, rfl, rfl⟩
    · exact ⟨none, rfl, rfl⟩
    · exact ⟨none, rfl, rfl⟩
    · exact pv_pair hs (e := 3600000000000000000) (by decide) (by decide) (by decide) (by decide)
    · exact ⟨none, pair_ints (by decide)⟩
    · exact ⟨none, pair_ints (by decide)⟩
    · exact ⟨none, rfl, rfl⟩
    · exact ⟨none, rfl, rfl⟩
  | @t n xs h l =>
    match xs, h, l with
    | [], _, _ => exact ⟨none, rfl, rfl⟩
    | [x], _, _ => exact ⟨none, rfl, rfl⟩
    | [x, y], h, _ =>
      have hx := h x List.mem_cons_self
      have hy := h y (List.mem_cons_of_mem _ List.mem_cons_self)
      obtain ⟨p1, q1, r1, r2, r3⟩ := hx.py (by omega)
      obtain ⟨p2, q2, s1, s2, s3⟩ := hy.py (by omega)
      cases hi2 : (isI x && isI y) with
      | false => exact ⟨none, no_ints p1 p2 ⟨q1, r1, r2, by omega⟩ ⟨q2, s1, s2, by omega⟩ hi2⟩
      | true =>
        rw [Bool.and_eq_true] at hi2
        cases x with
        | int a => cases y with
          | int b => exact pv_ints hs hx.int hy.int
          | _ => cases hi2.2
        | _ => cases hi2.1
    | _ :: _ :: _ :: _, _, l => simp at l
  | @l n xs h l => exact ⟨none, rfl, rfl⟩
end
end Bk
namespace Bk
open PySem L2
def bAny (r : Mob → List D → Option (R × Mob)) : MS := (xseq (xset 2 (xcallB r_w_choose 0 (xcons (xc (.int 9)) xnil)))
  (xseq (xifs (xtor (xtest (xop opLt (xv 1) (xc (.int 1)))) (xtest (xop opLt (xv 2) (xc (.int 5))))) (xseq (xset 3 (xlst (xcons (xc .non) (xcons (xc (.bl true)) (xcons (xc (.bl false)) (xcons (xc (.int 0)) (xcons (xc (.int 1)) (xcons (xun unNeg (xc (.int 3))) (xcons (xop opPow (xc (.int 10)) (xc (.int 17))) (xcons (xc (.str "")) (xcons (xc (.str "a")) (xcons (xc (.str "rule 0 1")) (xcons (xc (.str "1/2")) (xcons (xtup (xcons (xc (.int 1)) (xcons (xc (.int 2)) xnil))) (xcons (xtup (xcons (xc (.int 2)) (xcons (xc (.int 4)) xnil))) (xcons (xtup (xcons (xc (.int 1)) (xcons (xc (.int 0)) xnil))) (xcons (xtup xnil) (xcons (xlst xnil) xnil))))))))))))))))))
  (xret (xcallB r_w_one_of 0 (xcons (xv 3) xnil)))) xnext)
  (xseq (xset 4 (xlc (xrange1 (xcons (xcallB r_w_choose 0 (xcons (xc (.int 3)) xnil)) xnil)) (tgn 5) xtyes (xcallB r 0 (xcons (xop opSub (xv 1) (xc (.int 1))) xnil)) [5]))
  (xret (xif (xtest (xop opLt (xv 2) (xc (.int 7)))) (xcb cbTuple (xcons (xv 4) xnil)) (xv 4))))))
theorem anys (G : Gam) : (xlst (xcons (xc .non) (xcons (xc (.bl true)) (xcons (xc (.bl false)) (xcons (xc (.int 0)) (xcons (xc (.int 1)) (xcons (xun unNeg (xc (.int 3))) (xcons (xop opPow (xc (.int 10)) (xc (.int 17))) (xcons (xc (.str "")) (xcons (xc (.str "a")) (xcons (xc (.str "rule 0 1")) (xcons (xc (.str "1/2")) (xcons (xtup (xcons (xc (.int 1)) (xcons (xc (.int 2)) xnil))) (xcons (xtup (xcons (xc (.int 2)) (xcons (xc (.int 4)) xnil))) (xcons (xtup (xcons (xc (.int 1)) (xcons (xc (.int 0)) xnil))) (xcons (xtup xnil) (xcons (xlst xnil) xnil))))))))))))))))) G = some (.ol A16, G) := rfl
/-- one level more -/
theorem any_step {r : Mob → List D → Option (R × Mob)} {bs : Mob} {c n N : Nat} {k : Int} (hb : Bw c bs) (hc : c + 2 * N + 3 < 900000)
    (hr : 1 ≤ k → ∀ bs c', Bw c' bs → c' ≤ c + 2 + N → ∃ d bs', r bs [.int (k - 1)] = some (.im d, bs') ∧ Any n d ∧ Bw (c' + N) bs') :
    ∃ d bs', runB 2 6 (bAny r) bs [.int k] = some (.im d, bs') ∧ Any (n + 1) d ∧ Bw (c + 2 + 2 * N) bs' := by
  obtain ⟨f, b1, f1, f2, f3, hb1⟩ := v_w_choose (m := 9) hb (by omega) (by decide) (by decide)
  have c1 : (xset 2 (xcallB r_w_choose 0 (xcons (xc (.int 9)) xnil))) [.bx bs, .im (.int k), .un, .un, .un, .un] = some (.nx, [.bx b1, .im (.int k), .im (.int f), .un, .un, .un]) := xset_e (xcallB_ok rfl (xc1 rfl xnil_ok) rfl rfl f1 rfl) rfl
  have t1 : xtor (xtest (xop opLt (xv 1) (xc (.int 1)))) (xtest (xop opLt (xv 2) (xc (.int 5)))) [.bx b1, .im (.int k), .im (.int f), .un, .un, .un] = some (decide (k < 1) || decide (f < 5), [.bx b1, .im (.int k), .im (.int f), .un, .un, .un]) :=
    xtor_b (xtest_ok (xo2 rfl rfl rfl)) (xtest_ok (xo2 rfl rfl rfl))
  by_cases hk : k < 1 ∨ f < 5
  · obtain ⟨d, b2, d1, d2, hb2⟩ := v_w_one_of (xs := A16) hb1 (by omega) (by decide) (by decide)
    have e : (decide (k < 1) || decide (f < 5)) = true := by
      rcases hk with h | h
      · rw [decide_eq_true h]; rfl
      · rw [decide_eq_true h, Bool.or_true]
    rw [e] at t1
    refine ⟨d, b2, ?_, .c d2, hb2.up (by omega)⟩
    refine runB_st rfl ?_
    unfold bAny
    refine sb_nx c1 (sb_rt (r := .im d) (G1 := [.bx b2, .im (.int k), .im (.int f), .im (.lst A16), .un, .un]) ((xifs_ok t1).trans ?_) (by rfl))
    refine (if_pos rfl).trans ?_
    rw [xseq_nx (show _ = some (Fl.nx, [.bx b1, .im (.int k), .im (.int f), .ol A16, .un, .un]) from xset_e (anys _) rfl)]
    exact xret_ok (xcallB_ok rfl (xcons_ok (r := .im (.lst A16)) rfl xnil_ok) rfl rfl d1 rfl)
  · have k1 : 1 ≤ k := by omega
    have e : (decide (k < 1) || decide (f < 5)) = false := by
      rw [decide_eq_false (by omega), decide_eq_false (by omega)]
      rfl
    rw [e] at t1
    obtain ⟨m, b2, m1, m2, m3, hb2⟩ := v_w_choose (m := 3) hb1 (by omega) (by decide) (by decide)
    obtain ⟨out, G', o1, ⟨b3, hb3, rfl⟩, o3, o4⟩ := xlcL_exm (tg := tgn 5) (e := xcallB r 0 (xcons (xop opSub (xv 1) (xc (.int 1))) xnil)) (vs := [5]) (fun j G => ∃ bs, Bw (c + 2 + N * j) bs ∧ G = [.bx bs, .im (.int k), .im (.int f), .un, .un, .un]) (fun d => Any n d) 2
      (ds := rng 0 m.toNat) (n := 0) (G := [.bx b2, .im (.int k), .im (.int f), .un, .un, .un]) ⟨b2, hb2.up (by omega), rfl⟩ (fun d hd j hj G hG => by
        obtain ⟨bs, hb, rfl⟩ := hG
        have hj2 : N * j ≤ N := by
          have : j = 0 ∨ j = 1 := by omega
          rcases this with rfl | rfl
          · omega
          · omega
        obtain ⟨x, b', x1, x2, x3⟩ := hr k1 bs (c + 2 + N * j) hb (by omega)
        exact ⟨_, _, _, rfl, xcallB_ok rfl (xc1 (xo2 (x := .int k) (y := .int 1) rfl rfl rfl) xnil_ok) rfl rfl x1 rfl, x2, b', by rw [Nat.mul_succ]; exact x3.up (by omega), rfl⟩) (by rw [rng_ln]; omega)
    rw [rng_ln] at o4 hb3
    have lc : (xlc (xrange1 (xcons (xcallB r_w_choose 0 (xcons (xc (.int 3)) xnil)) xnil)) (tgn 5) xtyes (xcallB r 0 (xcons (xop opSub (xv 1) (xc (.int 1))) xnil)) [5]) [.bx b1, .im (.int k), .im (.int f), .un, .un, .un] = some (.ol out, [.bx b3, .im (.int k), .im (.int f), .un, .un, .un]) := by
      have := xlc_ok (it := xrange1 (xcons (xcallB r_w_choose 0 (xcons (xc (.int 3)) xnil)) xnil)) (tg := tgn 5) (t := xtyes) (vs := [5]) (G := [.bx b1, .im (.int k), .im (.int f), .un, .un, .un]) (xrange1_ok (xc1 (xcallB_ok rfl (xc1 rfl xnil_ok) rfl rfl m1 rfl) xnil_ok) (okR_of (by omega) (by omega))) rfl o1 (decide_eq_true (by omega))
      exact this
    have c4 : (xset 4 (xlc (xrange1 (xcons (xcallB r_w_choose 0 (xcons (xc (.int 3)) xnil)) xnil)) (tgn 5) xtyes (xcallB r 0 (xcons (xop opSub (xv 1) (xc (.int 1))) xnil)) [5])) [.bx b1, .im (.int k), .im (.int f), .un, .un, .un] = some (.nx, [.bx b3, .im (.int k), .im (.int f), .un, .ol out, .un]) := xset_e lc rfl
    have l2 : out.length ≤ 2 := by rw [o4]; omega
    have nb : Bw (c + 2 + 2 * N) b3 := hb3.up (by
      have : N * (0 + m.toNat) ≤ N * 2 := Nat.mul_le_mul (Nat.le_refl _) (by omega)
      omega)
    by_cases h7 : f < 7
    · refine ⟨.tup out, b3, runB_st rfl ?_, .t o3 l2, nb⟩
      unfold bAny
      refine sb_nx c1 (sb_nx ((xifs_ok t1).trans rfl) (sb_nx c4 (sb_ret (G1 := [.im (.int k), .im (.int f), .un, .im (.lst out), .un]) ((xif_ok (k := true) (xtest_ok (xo2 (x := .int f) (y := .int 7) rfl rfl (by
        show some (R.im (D.bl (decide (f < 7)))) = _
        rw [decide_eq_true h7])))).trans (xcb_ok (xcons_ok (r := .im (.lst out)) rfl xnil_ok) rfl)))))
    · refine ⟨.lst out, b3, runB_st rfl ?_, .l o3 l2, nb⟩
      unfold bAny
      refine sb_nx c1 (sb_nx ((xifs_ok t1).trans rfl) (sb_nx c4 (sb_ret (G1 := [.im (.int k), .im (.int f), .un, .im (.lst out), .un]) ((xif_ok (k := false) (xtest_ok (xo2 (x := .int f) (y := .int 7) rfl rfl (by
        show some (R.im (D.bl (decide (f < 7)))) = _
        rw [decide_eq_false h7])))).trans rfl))))
theorem any_0 {bs : Mob} {c : Nat} (hb : Bw c bs) (hc : c < 800000) : ∃ d bs', r_w_anything_0 bs [.int 0] = some (.im d, bs') ∧ Any 1 d ∧ Bw (c + 2) bs' :=
  any_step (r := r_w_anything_z) (n := 0) (N := 0) (k := 0) hb (by omega) (fun h => absurd h (by decide))
theorem any_1 {bs : Mob} {c : Nat} (hb : Bw c bs) (hc : c < 750000) : ∃ d bs', r_w_anything_1 bs [.int 1] = some (.im d, bs') ∧ Any 2 d ∧ Bw (c + 6) bs' :=
  any_step (r := r_w_anything_0) (n := 1) (N := 2) (k := 1) hb (by omega) (fun _ bs c' h h9 => any_0 h (by omega))
theorem any_2 {bs : Mob} {c : Nat} (hb : Bw c bs) (hc : c < 700000) : ∃ d bs', r_w_anything_2 bs [.int 2] = some (.im d, bs') ∧ Any 3 d ∧ Bw (c + 14) bs' :=
  any_step (r := r_w_anything_1) (n := 2) (N := 6) (k := 2) hb (by omega) (fun _ bs c' h h9 => any_1 h (by omega))
theorem v_w_anything {bs : Mob} {c : Nat} (hb : Bw c bs) (hc : c < 600000) : ∃ d bs', r_w_anything bs [.int 3] = some (.im d, bs') ∧ Any 4 d ∧ Bw (c + 30) bs' :=
  any_step (r := r_w_anything_2) (n := 3) (N := 14) (k := 3) hb (by omega) (fun _ bs c' h h9 => any_2 h (by omega))
end Bk
namespace Bk
open PySem L2
theorem set_same9 {G : Gam} {i : Nat} {e : Ent} (h : G[i]? = some e) : G.set i e = G := by
  apply List.ext_getElem?
  intro j
  by_cases z : i = j
  · subst z
    rw [List.getElem?_set_self (by exact (List.getElem?_eq_some_iff.mp h).1), h]
  · rw [List.getElem?_set_ne z]
theorem v7 : D.tup [.int 1, .int 7] = vq (1 / 7) := by
  have h1 : (1 / 7 : Rat).num = 1 := by decide +kernel
  have h2 : (1 / 7 : Rat).den = 7 := by decide +kernel
  unfold vq
  rw [h1, h2]
  rfl
theorem ht7 : Ht (1 / 7 : Rat) 4 := ht_of _ (n := 1) (d := 7) (by decide +kernel) (by decide +kernel) (by decide) (by decide)
theorem hi1 : Ht (1 : Rat) 4 := ht_of _ (n := 1) (d := 1) (by decide +kernel) (by decide +kernel) (by decide) (by decide)
theorem mk_01 : r_Rule_init (.o 0 []) [.int 0, .int 1, .tup [], .tup []] = some (.im .non, .o 0 (rlL 0 1 (lwOf []) (lsOf []))) :=
  v_Rule_init (lo := 0) (hi := 1) (k := 4) (ps := []) (qs := []) (.inl ⟨0, rfl, rfl⟩) (.inl ⟨1, rfl, rfl⟩) (ht0.up (by decide)) hi1 (by decide +kernel) (.inr (.inl rfl)) (.inr (.inl rfl)) (by simp) (by simp) (by simp) (by simp) (by simp) (by simp) (by decide) (by decide)
theorem dv_up9 {q : Rat} (h : Dv 72 1300 q) : Dv 7200000000000000000 130000000000000000000 q := by
  obtain ⟨_, z, hz, hb⟩ := h
  refine ⟨by decide, z * 100000000000000000, ?_, by rw [Int.natAbs_mul]; have : (100000000000000000 : Int).natAbs = 100000000000000000 := rfl; rw [this]; omega⟩
  have e : (((7200000000000000000 : Nat) : Int) : Rat) = (((72 : Nat) : Int) : Rat) * 100000000000000000 := by decide +kernel
  rw [e, Rat.intCast_mul, ← hz]
  have : ((100000000000000000 : Int) : Rat) = 100000000000000000 := rfl
  rw [this]
  generalize (((72 : Nat) : Int) : Rat) = y
  grind
theorem str_hs {lo hi : Rat} (hv : Dv 12 180 lo) (hv2 : Dv 6 12 (hi - lo)) : ∀ q : Rat, lo ≤ q → q ≤ hi → -18 ≤ q ∧ q ≤ 18 := fun q a b => by
  obtain ⟨_, z, hz, hz2⟩ := hv
  obtain ⟨_, w, hw, hw2⟩ := hv2
  have e1 : (((12 : Nat) : Int) : Rat) = 12 := rfl
  have e2 : (((6 : Nat) : Int) : Rat) = 6 := rfl
  rw [e1] at hz
  rw [e2] at hw
  have a1 : (z : Rat) ≤ ((180 : Int) : Rat) := Rat.intCast_le_intCast.mpr (by omega)
  have a2 : ((-180 : Int) : Rat) ≤ (z : Rat) := Rat.intCast_le_intCast.mpr (by omega)
  have b1 : (w : Rat) ≤ ((12 : Int) : Rat) := Rat.intCast_le_intCast.mpr (by omega)
  have c1 : ((180 : Int) : Rat) = 180 := rfl
  have c2 : ((-180 : Int) : Rat) = -180 := rfl
  have c3 : ((12 : Int) : Rat) = 12 := rfl
  rw [c1] at a1
  rw [c2] at a2
  rw [c3] at b1
  constructor <;> grind
theorem wr_ok {lo hi : Rat} : ∀ {qs : List Rat} {l : Option Rat} {i : Nat}, (l.toList ++ qs).Pairwise (· < ·) → (∀ q ∈ qs, lo ≤ q ∧ q ≤ hi) → wr lo hi l i (qs.map some) = none
  | [], _, _, _, _ => rfl
  | q :: qs, l, i, hs, hq => by
    have hb : bad1 lo hi l (some q) = false := by
      show (!inB lo hi q || ltB l q) = false
      have h1 : inB lo hi q = true := by
        obtain ⟨a, b⟩ := hq q List.mem_cons_self
        unfold inB
        rw [decide_eq_false (Rat.not_lt.mpr a), decide_eq_false (Rat.not_lt.mpr b)]
        rfl
      rw [h1]
      cases l with
      | none => rfl
      | some z =>
        have : z < q := (List.pairwise_cons.mp hs).1 q List.mem_cons_self
        show (false || !decide (z < q)) = false
        rw [decide_eq_true this]
        rfl
    show (if bad1 lo hi l (some q) then some i else wr lo hi (some q) (i + 1) (qs.map some)) = none
    rw [hb]
    exact wr_ok (l := some q) (by
      cases l with
      | none => exact hs
      | some z => exact (List.pairwise_cons.mp hs).2) fun z hz => hq z (List.mem_cons_of_mem _ hz)
theorem wr_again {lo hi q : Rat} : ∀ {qs : List Rat} {l : Option Rat} {i : Nat}, (l.toList ++ qs).Pairwise (· < ·) → (∀ q ∈ qs, lo ≤ q ∧ q ≤ hi) → (l.toList ++ qs).getLast? = some q → wr lo hi l i (qs.map some ++ [some q]) = some (i + qs.length)
  | [], l, i, hs, hq, hl => by
    cases l with
    | none => cases hl
    | some z =>
      cases hl
      show (if bad1 lo hi (some z) (some z) then some i else none) = some (i + 0)
      have : bad1 lo hi (some z) (some z) = true := by
        show (!inB lo hi z || !decide (z < z)) = true
        rw [decide_eq_false Rat.lt_irrefl, Bool.or_comm]
        rfl
      rw [this]
      rfl
  | p :: qs, l, i, hs, hq, hl => by
    have hb : bad1 lo hi l (some p) = false := by
      have := wr_ok (lo := lo) (hi := hi) (i := i) hs hq
      have h : (if bad1 lo hi l (some p) then some i else wr lo hi (some p) (i + 1) (qs.map some)) = none := this
      cases z : bad1 lo hi l (some p) with
      | false => rfl
      | true => rw [z] at h; cases h
    show (if bad1 lo hi l (some p) then some i else wr lo hi (some p) (i + 1) (qs.map some ++ [some q])) = some (i + (qs.length + 1))
    rw [hb]
    have := wr_again (lo := lo) (hi := hi) (q := q) (qs := qs) (l := some p) (i := i + 1) (by
      cases l with
      | none => exact hs
      | some z => exact (List.pairwise_cons.mp hs).2) (fun z hz => hq z (List.mem_cons_of_mem _ hz)) (by
      cases l with
      | none => exact hl
      | some z => rw [← hl]; rfl)
    rw [if_neg Bool.false_ne_true, this]
    exact congrArg some (by omega)
theorem rep6 {r : D} (h : r = .non ∨ ∃ i : Nat, r = .int i ∧ i ≤ 6) : ∃ s, cbRepr [r] = some (.im (.str s)) := by
  rcases h with rfl | ⟨i, rfl, hi⟩
  · exact ⟨_, repr_of9 rfl (by decide +kernel)⟩
  · rcases (by omega : i = 0 ∨ i = 1 ∨ i = 2 ∨ i = 3 ∨ i = 4 ∨ i = 5 ∨ i = 6) with rfl | rfl | rfl | rfl | rfl | rfl | rfl <;> exact ⟨_, repr_of9 rfl (by decide +kernel)⟩
theorem ne6 {r : D} (h : r = .non ∨ ∃ i : Nat, r = .int i ∧ i ≤ 6) : opNe r r = some (.im (.bl false)) := by
  rcases h with rfl | ⟨i, rfl, hi⟩
  · rfl
  · show some (R.im (D.bl (!decide ((i : Int) = (i : Int))))) = _
    rw [decide_eq_true rfl]
    rfl
def Pt (lo hi : Rat) (c : D) : Prop := NoS c ∨ ∃ xs : List (D × Option Rat), isSq c (xs.map (·.1)) ∧ (∀ p ∈ xs, PV lo hi p.1 p.2) ∧ xs.length ≤ 5
theorem pt_of {lo hi : Rat} {c : D} {l : List D} (hc : isSq c l) (h : ∀ x ∈ l, ∃ q, PV lo hi x q) (hl : l.length ≤ 5) : Pt lo hi c := by
  have : ∃ xs : List (D × Option Rat), xs.map (·.1) = l ∧ ∀ p ∈ xs, PV lo hi p.1 p.2 := by
    clear hc hl
    induction l with
    | nil => exact ⟨[], rfl, fun p hp => by cases hp⟩
    | cons x l ih =>
      obtain ⟨q, hq⟩ := h x List.mem_cons_self
      obtain ⟨xs, e, hx⟩ := ih fun y hy => h y (List.mem_cons_of_mem _ hy)
      refine ⟨(x, q) :: xs, by rw [List.map_cons, e], fun p hp => ?_⟩
      rcases List.mem_cons.mp hp with rfl | hp
      · exact hq
      · exact hx p hp
  obtain ⟨xs, e, hx⟩ := this
  refine .inr ⟨xs, by rw [e]; exact hc, hx, ?_⟩
  have := congrArg List.length e
  rw [List.length_map] at this
  omega
section
variable {lo hi : Rat} (k1 : Ht lo 4) (k2 : Ht hi 8) (hl : lo < hi) (hv : Dv 12 180 lo) (hv2 : Dv 6 12 (hi - lo))
include hv hv2 k1 k2
theorem pv_q {p : Rat} (h : Dv 72 1300 p) : PV lo hi (vq p) (some p) := ⟨isV_vq p, h.ht (by decide) (by decide), fun _ _ => dv_up9 h⟩
include hl
theorem odd_ok {pt : Rat} {an : D} {n : Nat} (hp : Dv 72 1300 pt) (ha : Any n an) (hn : n ≤ 6) (hlo : Dv 72 1300 lo) (hhi : Dv 72 1300 hi) : ∀ x ∈ [D.non, .bl true, .str "0", .tup [.int 2, .int 4], .tup [.int 1, .int 0], .lst [.int 1, .int 2], .tup [.int 1, .int (-1)], vq lo, vq hi, vq (hi + 1 / 7), vq (lo - 1 / 7), vq pt, an, .tup [vq lo, .int 1], .obj 0 (rlL 0 1 (lwOf []) (lsOf []))], ∃ q, PV lo hi x q := fun x h => by
  simp only [List.mem_cons, List.not_mem_nil, or_false] at h
  rcases h with rfl | rfl | rfl | rfl | rfl | rfl | rfl | rfl | rfl | rfl | rfl | rfl | rfl | rfl | rfl
  · exact ⟨none, rfl, rfl⟩
  · exact ⟨none, rfl, rfl⟩
  · exact ⟨none, rfl, rfl⟩
  · exact ⟨none, pair_ints (by decide)⟩
  · exact ⟨none, pair_ints (by decide)⟩
  · exact ⟨none, rfl, rfl⟩
  · exact ⟨none, pair_ints (by decide)⟩
  · exact ⟨_, pv_q k1 k2 hv hv2 hlo⟩
  · exact ⟨_, pv_q k1 k2 hv hv2 hhi⟩
  · exact ⟨some (hi + 1 / 7), isV_vq _, (k2.add ht7).up (by decide), fun _ u => absurd u (Rat.not_le.mpr (by grind))⟩
  · exact ⟨some (lo - 1 / 7), isV_vq _, (k1.sub ht7).up (by decide), fun l _ => absurd l (Rat.not_le.mpr (by grind))⟩
  · exact ⟨_, pv_q k1 k2 hv hv2 hp⟩
  · exact pv_any (str_hs hv hv2) ha hn
  · exact ⟨none, no_ints rfl rfl ⟨_, rfl, rfl, show 1 ≤ 40 by decide⟩ ⟨_, rfl, rfl, show 0 ≤ 40 by decide⟩ rfl⟩
  · exact ⟨none, rfl, rfl⟩
end
end Bk
namespace Bk
open PySem L2
theorem xv_lst {i : Nat} {G : Gam} {e : Ent} {xs : List D} (h : G[i]? = some e) (h9 : e = .ol xs ∨ e = .im (.lst xs)) : xv i G = some (.im (.lst xs), G.set i (.im (.lst xs))) := by
  rcases h9 with rfl | rfl
  · unfold xv
    rw [h]
    rfl
  · unfold xv
    rw [h, set_same9 h]
theorem cut_sub {xs : List D} {a b : Option Int} : ∀ t ∈ cutD xs a b, t ∈ xs := fun t h => List.mem_of_mem_drop (List.mem_of_mem_take h)
theorem cut_two {xs : List D} {t : Int} : (cutD xs none (some t)).length + (cutD xs (some t) none).length ≤ xs.length := by
  unfold cutD
  rw [List.length_take, List.length_drop, List.length_take, List.length_drop]
  have e : HT.sIx xs.length xs.length (some t) = HT.sIx xs.length 0 (some t) := rfl
  rw [e]
  show min (HT.sIx xs.length 0 (some t) - 0) (xs.length - 0) + min (xs.length - HT.sIx xs.length 0 (some t)) (xs.length - HT.sIx xs.length 0 (some t)) ≤ xs.length
  omega
theorem cut_last {xs : List D} {x : D} : cutD (xs ++ [x]) (some (-1)) none = [x] := by
  have e1 : HT.sIx (xs ++ [x]).length 0 (some (-1)) = xs.length := by
    show ((-1 : Int) + (((xs ++ [x]).length : Nat) : Int)).toNat = xs.length
    rw [List.length_append, List.length_singleton]
    omega
  unfold cutD
  rw [e1]
  show ((xs ++ [x]).drop xs.length).take ((xs ++ [x]).length - xs.length) = [x]
  rw [List.drop_left, List.length_append, List.length_singleton]
  have : xs.length + 1 - xs.length = 1 := by omega
  rw [this]
  rfl
theorem xrevA_ok {a b : M R} {G G1 G2 : Gam} {x y : R} {ds : List D} (h : a G = some (x, G1)) (h2 : b G1 = some (y, G2)) (hx : x.d = .lst ds) (hy : y.d = .int (-1)) : xrevA a b G = some (.ol ds.reverse, G2) := by
  unfold xrevA
  rw [h]
  simp only [bd_some, h2, hx, hy]
  rfl
theorem lw2 {x0 x1 x3 x4 x5 x6 x7 x8 x9 x10 x11 : Ent} {bs : Mob} {c : Nat} (hb : Bw c bs) (hc : c < 80000) : ∃ bs' y4 y5 y6 y7 y8 y9 y10 y11, b_law_2 [x0, x1, .ow bs, x3, x4, x5, x6, x7, x8, x9, x10, x11] = some (.nx, [x0, x1, .ow bs', x3, y4, y5, y6, y7, y8, y9, y10, y11]) ∧ Bw (c + 60) bs' := by
  obtain ⟨lo, hi, b1, r1, hb1, k1, k2, hl, hv, hv2⟩ := v_w_stretch hb (by omega)
  have h1 : Ht lo 40 := k1.up (by decide)
  have h2 : Ht hi 40 := k2.up (by decide)
  have dlo : Dv 72 1300 lo := (hv.scale (m := 6) (by decide)).up (by decide)
  have dhi : Dv 72 1300 hi := by
    have h1 := (hv.add (hv2.scale (m := 2) (by decide))).scale (m := 6) (by decide)
    have e : lo + (hi - lo) = hi := by grind
    rw [e] at h1
    exact h1.up (by decide)
  have ver : ∀ {c : D}, Pt lo hi c → ∃ r, r_w_heard [vq lo, vq hi, c] = some (.im r) ∧ r_w_due [c, vq lo, vq hi] = some (.im r) ∧ (r = .non ∨ ∃ i : Nat, r = .int i ∧ i ≤ 6) := fun h => verdict6 h1 h2 hl (dv_up9 dlo) (dv_up9 dhi) h
  obtain ⟨r, b2, ps, r2, hr, hb2, srt, pin, pl0, pl4⟩ := v_w_points (m := 4) hb1 (by omega) (by decide) (by decide) k1 k2 hl hv hv2
  have pl4 : ps.length ≤ 4 := pl4
  have e6x : ∃ e6 : Ent, r.ent = e6 ∧ (e6 = .ol (ps.map vq) ∨ e6 = .im (.lst (ps.map vq))) := by
    rcases hr with rfl | rfl
    · exact ⟨_, rfl, .inl rfl⟩
    · exact ⟨_, rfl, .inr rfl⟩
  obtain ⟨e6, he6, h6⟩ := e6x
  have pp : ∀ x ∈ (ps.map vq), ∃ q, PV lo hi x q := fun x hx => by
    obtain ⟨p, hp, rfl⟩ := List.mem_map.mp hx
    exact ⟨_, pv_q k1 k2 hv hv2 (pin p hp).1⟩
  have plm : (ps.map vq).length = ps.length := List.length_map ..
  have xsP : (ps.map fun q => ((vq q, some q) : D × Option Rat)).map (·.1) = (ps.map vq) := by rw [List.map_map]; rfl
  have xsC : (ps.map fun q => ((vq q, some q) : D × Option Rat)).map (·.2) = ps.map some := by rw [List.map_map]; rfl
  have nonP : ∃ rr, rr = D.non ∧ r_w_heard [vq lo, vq hi, .lst (ps.map vq)] = some (.im rr) := by
    obtain ⟨rr, a, b, _⟩ := ver (pt_of (c := .lst (ps.map vq)) (.inl rfl) pp (by omega))
    have d := due_s h1 h2 (c := .lst (ps.map vq)) (xs := ps.map fun q => (vq q, some q)) (by rw [xsP]; exact .inl rfl) (fun p hp => by
      obtain ⟨q, hq, rfl⟩ := List.mem_map.mp hp
      exact pv_q k1 k2 hv hv2 (pin q hq).1) (fun e => by
      have := congrArg List.length e
      rw [List.length_map] at this
      exact absurd this (by simp only [List.length_nil]; omega))
    rw [xsC, wr_ok (l := none) srt (fun q hq => (pin q hq).2), b] at d
    cases d
    exact ⟨_, rfl, a⟩
  obtain ⟨_, rfl, nonP⟩ := nonP
  have c0 : (xasg (xcallB r_w_stretch 2 xnil) (tgt [(tgn 4), (tgn 5)])) [x0, x1, .ow bs, x3, x4, x5, x6, x7, x8, x9, x10, x11] = some (.nx, [x0, x1, .ow b1, x3, .im (vq lo), .im (vq hi), x6, x7, x8, x9, x10, x11]) := xasg_ok (xcallB_ok rfl rfl rfl rfl r1 rfl) rfl
  have c1 : (xset 6 (xcallB r_w_points 2 (xcons (xv 4) (xcons (xv 5) (xcons (xc (.int 4)) xnil))))) [x0, x1, .ow b1, x3, .im (vq lo), .im (vq hi), x6, x7, x8, x9, x10, x11] = some (.nx, [x0, x1, .ow b2, x3, .im (vq lo), .im (vq hi), e6, x7, x8, x9, x10, x11]) := by
    have := xset_e (i := 6) (xcallB_ok (m := r_w_points) (i := 2) (a := xcons (xv 4) (xcons (xv 5) (xcons (xc (.int 4)) xnil))) (G := [x0, x1, .ow b1, x3, .im (vq lo), .im (vq hi), x6, x7, x8, x9, x10, x11]) rfl rfl rfl rfl r2 rfl) rfl
    rw [← he6]
    exact this
  have rd : xv 6 [x0, x1, .ow b2, x3, .im (vq lo), .im (vq hi), e6, x7, x8, x9, x10, x11] = some (.im (.lst (ps.map vq)), [x0, x1, .ow b2, x3, .im (vq lo), .im (vq hi), .im (.lst (ps.map vq)), x7, x8, x9, x10, x11]) := xv_lst (i := 6) rfl h6
  have c2 : (xifs (xtest (xop opIsNot (xcall r_w_heard (xcons (xv 4) (xcons (xv 5) (xcons (xv 6) xnil)))) (xc .non))) (xret (xc (.bl false))) xnext) [x0, x1, .ow b2, x3, .im (vq lo), .im (vq hi), e6, x7, x8, x9, x10, x11] = some (.nx, [x0, x1, .ow b2, x3, .im (vq lo), .im (vq hi), .im (.lst (ps.map vq)), x7, x8, x9, x10, x11]) := (xifs_ok (k := false) (xtest_ok (xo2 (xcall_ok (xc1 rfl (xc1 rfl (xc1 rd xnil_ok))) nonP) rfl rfl))).trans rfl
  obtain ⟨t, b3, t1, t2, t3, hb3⟩ := v_w_choose (m := ((ps.map vq).length : Int) + 1) hb2 (by omega) (by omega) (by omega)
  have c3 : (xset 7 (xcallB r_w_choose 2 (xcons (xop opAddB (xcb cbLen (xcons (xv 6) xnil)) (xc (.int 1))) xnil))) [x0, x1, .ow b2, x3, .im (vq lo), .im (vq hi), .im (.lst (ps.map vq)), x7, x8, x9, x10, x11] = some (.nx, [x0, x1, .ow b3, x3, .im (vq lo), .im (vq hi), .im (.lst (ps.map vq)), .im (.int t), x8, x9, x10, x11]) := xset_e (xcallB_ok rfl (xc1 (xo2 (xcb_ok (xc1 rfl xnil_ok) rfl) rfl rfl) xnil_ok) rfl rfl t1 rfl) rfl
  have c4 : (xset 8 (xlst (xcons (xc .non) (xcons (xc (.bl true)) (xcons (xc (.str "0")) (xcons (xtup (xcons (xc (.int 2)) (xcons (xc (.int 4)) xnil))) (xcons (xtup (xcons (xc (.int 1)) (xcons (xc (.int 0)) xnil))) (xcons (xlst (xcons (xc (.int 1)) (xcons (xc (.int 2)) xnil))) (xcons (xtup (xcons (xc (.int 1)) (xcons (xun unNeg (xc (.int 1))) xnil))) (xcons (xv 4) (xcons (xv 5) xnil))))))))))) [x0, x1, .ow b3, x3, .im (vq lo), .im (vq hi), .im (.lst (ps.map vq)), .im (.int t), x8, x9, x10, x11] = some (.nx, [x0, x1, .ow b3, x3, .im (vq lo), .im (vq hi), .im (.lst (ps.map vq)), .im (.int t), .ol [D.non, .bl true, .str "0", .tup [.int 2, .int 4], .tup [.int 1, .int 0], .lst [.int 1, .int 2], .tup [.int 1, .int (-1)], vq lo, vq hi], x9, x10, x11]) := rfl
  have pl : xcall r_w_plus (xcons (xv 5) (xcons (xtup (xcons (xc (.int 1)) (xcons (xc (.int 7)) xnil))) xnil)) [x0, x1, .ow b3, x3, .im (vq lo), .im (vq hi), .im (.lst (ps.map vq)), .im (.int t), .im (.lst [D.non, .bl true, .str "0", .tup [.int 2, .int 4], .tup [.int 1, .int 0], .lst [.int 1, .int 2], .tup [.int 1, .int (-1)], vq lo, vq hi]), x9, x10, x11] = some (.im (vq (hi + 1 / 7)), [x0, x1, .ow b3, x3, .im (vq lo), .im (vq hi), .im (.lst (ps.map vq)), .im (.int t), .im (.lst [D.non, .bl true, .str "0", .tup [.int 2, .int 4], .tup [.int 1, .int 0], .lst [.int 1, .int 2], .tup [.int 1, .int (-1)], vq lo, vq hi]), x9, x10, x11]) := xcall_ok (xc1 rfl (xc1 rfl xnil_ok)) (by
    have := v_w_plus k2 ht7 (by decide)
    rw [← v7] at this
    exact this)
  have mi : xcall r_w_minus (xcons (xv 4) (xcons (xtup (xcons (xc (.int 1)) (xcons (xc (.int 7)) xnil))) xnil)) [x0, x1, .ow b3, x3, .im (vq lo), .im (vq hi), .im (.lst (ps.map vq)), .im (.int t), .im (.lst [D.non, .bl true, .str "0", .tup [.int 2, .int 4], .tup [.int 1, .int 0], .lst [.int 1, .int 2], .tup [.int 1, .int (-1)], vq lo, vq hi]), x9, x10, x11] = some (.im (vq (lo - 1 / 7)), [x0, x1, .ow b3, x3, .im (vq lo), .im (vq hi), .im (.lst (ps.map vq)), .im (.int t), .im (.lst [D.non, .bl true, .str "0", .tup [.int 2, .int 4], .tup [.int 1, .int 0], .lst [.int 1, .int 2], .tup [.int 1, .int (-1)], vq lo, vq hi]), x9, x10, x11]) := xcall_ok (xc1 rfl (xc1 rfl xnil_ok)) (by
    have := v_w_minus k1 ht7 (by decide)
    rw [← v7] at this
    exact this)
  have c5 : (xset 8 (xop opAddB (xv 8) (xlst (xcons (xcall r_w_plus (xcons (xv 5) (xcons (xtup (xcons (xc (.int 1)) (xcons (xc (.int 7)) xnil))) xnil))) (xcons (xcall r_w_minus (xcons (xv 4) (xcons (xtup (xcons (xc (.int 1)) (xcons (xc (.int 7)) xnil))) xnil))) xnil))))) [x0, x1, .ow b3, x3, .im (vq lo), .im (vq hi), .im (.lst (ps.map vq)), .im (.int t), .ol [D.non, .bl true, .str "0", .tup [.int 2, .int 4], .tup [.int 1, .int 0], .lst [.int 1, .int 2], .tup [.int 1, .int (-1)], vq lo, vq hi], x9, x10, x11] = some (.nx, [x0, x1, .ow b3, x3, .im (vq lo), .im (vq hi), .im (.lst (ps.map vq)), .im (.int t), .ol [D.non, .bl true, .str "0", .tup [.int 2, .int 4], .tup [.int 1, .int 0], .lst [.int 1, .int 2], .tup [.int 1, .int (-1)], vq lo, vq hi, vq (hi + 1 / 7), vq (lo - 1 / 7)], x9, x10, x11]) := xset_e (xop_ok (x := .im (.lst [D.non, .bl true, .str "0", .tup [.int 2, .int 4], .tup [.int 1, .int 0], .lst [.int 1, .int 2], .tup [.int 1, .int (-1)], vq lo, vq hi])) rfl (xlst_ok (xc1 pl (xc1 mi xnil_ok)) rfl) rfl) rfl
  obtain ⟨pt, b4, p1, _, _, _, hb4, dp⟩ := v_w_point hb3 (by omega) k1 k2 hl hv hv2
  obtain ⟨an, b5, a1, a2, hb5⟩ := v_w_anything hb4 (by omega)
  have c6 : (xset 8 (xop opAddB (xv 8) (xlst (xcons (xcallB r_w_point 2 (xcons (xv 4) (xcons (xv 5) xnil))) (xcons (xcallB r_w_anything 2 (xcons (xc (.int 3)) xnil)) (xcons (xtup (xcons (xv 4) (xcons (xc (.int 1)) xnil))) (xcons (xmake 0 r_Rule_init ([.tup [], .tup []].drop 0) (xcons (xc (.int 0)) (xcons (xc (.int 1)) xnil))) xnil))))))) [x0, x1, .ow b3, x3, .im (vq lo), .im (vq hi), .im (.lst (ps.map vq)), .im (.int t), .ol [D.non, .bl true, .str "0", .tup [.int 2, .int 4], .tup [.int 1, .int 0], .lst [.int 1, .int 2], .tup [.int 1, .int (-1)], vq lo, vq hi, vq (hi + 1 / 7), vq (lo - 1 / 7)], x9, x10, x11] = some (.nx, [x0, x1, .ow b5, x3, .im (vq lo), .im (vq hi), .im (.lst (ps.map vq)), .im (.int t), .ol [D.non, .bl true, .str "0", .tup [.int 2, .int 4], .tup [.int 1, .int 0], .lst [.int 1, .int 2], .tup [.int 1, .int (-1)], vq lo, vq hi, vq (hi + 1 / 7), vq (lo - 1 / 7), vq pt, an, .tup [vq lo, .int 1], .obj 0 (rlL 0 1 (lwOf []) (lsOf []))], x9, x10, x11]) := xset_e (xop_ok (x := .im (.lst [D.non, .bl true, .str "0", .tup [.int 2, .int 4], .tup [.int 1, .int 0], .lst [.int 1, .int 2], .tup [.int 1, .int (-1)], vq lo, vq hi, vq (hi + 1 / 7), vq (lo - 1 / 7)])) rfl (xlst_ok (xc1 (xcallB_ok (G := [x0, x1, .ow b3, x3, .im (vq lo), .im (vq hi), .im (.lst (ps.map vq)), .im (.int t), .im (.lst [D.non, .bl true, .str "0", .tup [.int 2, .int 4], .tup [.int 1, .int 0], .lst [.int 1, .int 2], .tup [.int 1, .int (-1)], vq lo, vq hi, vq (hi + 1 / 7), vq (lo - 1 / 7)]), x9, x10, x11]) rfl rfl rfl rfl p1 rfl) (xc1 (xcallB_ok rfl rfl rfl rfl a1 rfl) (xc1 rfl (xcons_ok (xmake_ok rfl mk_01) xnil_ok)))) rfl) rfl) rfl
  obtain ⟨th, b6, th1, th2, hb6⟩ := v_w_one_of (xs := [D.non, .bl true, .str "0", .tup [.int 2, .int 4], .tup [.int 1, .int 0], .lst [.int 1, .int 2], .tup [.int 1, .int (-1)], vq lo, vq hi, vq (hi + 1 / 7), vq (lo - 1 / 7), vq pt, an, .tup [vq lo, .int 1], .obj 0 (rlL 0 1 (lwOf []) (lsOf []))]) hb5 (by omega) (show 0 < 15 by decide) (show 15 < 1000000 by decide)
  have cl := cut_two (xs := (ps.map vq)) (t := t)
  have u1 : opAddB (.lst (cutD (ps.map vq) none (some t))) (.lst [th]) = some (.ol (cutD (ps.map vq) none (some t) ++ [th])) := if_pos (decide_eq_true (by rw [List.length_singleton]; omega))
  have u2 : opAddB (.lst (cutD (ps.map vq) none (some t) ++ [th])) (.lst (cutD (ps.map vq) (some t) none)) = some (.ol (cutD (ps.map vq) none (some t) ++ [th] ++ cutD (ps.map vq) (some t) none)) := if_pos (decide_eq_true (by rw [List.length_append, List.length_singleton]; omega))
  have c7 : (xset 9 (xop opAddB (xop opAddB (xsl slB (xv 6) xnop (xpart (xv 7))) (xlst (xcons (xcallB r_w_one_of 2 (xcons (xv 8) xnil)) xnil))) (xsl slB (xv 6) (xpart (xv 7)) xnop))) [x0, x1, .ow b5, x3, .im (vq lo), .im (vq hi), .im (.lst (ps.map vq)), .im (.int t), .ol [D.non, .bl true, .str "0", .tup [.int 2, .int 4], .tup [.int 1, .int 0], .lst [.int 1, .int 2], .tup [.int 1, .int (-1)], vq lo, vq hi, vq (hi + 1 / 7), vq (lo - 1 / 7), vq pt, an, .tup [vq lo, .int 1], .obj 0 (rlL 0 1 (lwOf []) (lsOf []))], x9, x10, x11] = some (.nx, [x0, x1, .ow b6, x3, .im (vq lo), .im (vq hi), .im (.lst (ps.map vq)), .im (.int t), .im (.lst [D.non, .bl true, .str "0", .tup [.int 2, .int 4], .tup [.int 1, .int 0], .lst [.int 1, .int 2], .tup [.int 1, .int (-1)], vq lo, vq hi, vq (hi + 1 / 7), vq (lo - 1 / 7), vq pt, an, .tup [vq lo, .int 1], .obj 0 (rlL 0 1 (lwOf []) (lsOf []))]), .ol (cutD (ps.map vq) none (some t) ++ [th] ++ cutD (ps.map vq) (some t) none), x10, x11]) := xset_e (xop_ok (xop_ok (xsl_ok (x := .im (.lst (ps.map vq))) rfl rfl rfl rfl) (xlst_ok (xc1 (xcallB_ok rfl rfl rfl rfl th1 rfl) xnil_ok) rfl) u1) (xsl_ok (x := .im (.lst (ps.map vq))) rfl rfl rfl rfl) u2) rfl
  obtain ⟨rb, q1, q2, q3⟩ := ver (pt_of (c := .lst (cutD (ps.map vq) none (some t) ++ [th] ++ cutD (ps.map vq) (some t) none)) (.inl rfl) (fun x hx => by
    rcases List.mem_append.mp hx with hx | hx
    · rcases List.mem_append.mp hx with hx | hx
      · exact pp x (cut_sub x hx)
      · rw [List.mem_singleton.mp hx]
        exact odd_ok k1 k2 hl hv hv2 dp a2 (by decide) dlo dhi th th2
    · exact pp x (cut_sub x hx)) (by
    rw [List.length_append, List.length_append, List.length_singleton]
    omega))
  obtain ⟨sb, hsb⟩ := rep6 q3
  have c8 : (xifs (xtest (xop opNe (xcb cbRepr (xcons (xcall r_w_heard (xcons (xv 4) (xcons (xv 5) (xcons (xv 9) xnil)))) xnil)) (xcb cbRepr (xcons (xcall r_w_due (xcons (xv 9) (xcons (xv 4) (xcons (xv 5) xnil)))) xnil)))) (xret (xc (.bl false))) xnext) [x0, x1, .ow b6, x3, .im (vq lo), .im (vq hi), .im (.lst (ps.map vq)), .im (.int t), .im (.lst [D.non, .bl true, .str "0", .tup [.int 2, .int 4], .tup [.int 1, .int 0], .lst [.int 1, .int 2], .tup [.int 1, .int (-1)], vq lo, vq hi, vq (hi + 1 / 7), vq (lo - 1 / 7), vq pt, an, .tup [vq lo, .int 1], .obj 0 (rlL 0 1 (lwOf []) (lsOf []))]), .ol (cutD (ps.map vq) none (some t) ++ [th] ++ cutD (ps.map vq) (some t) none), x10, x11] = some (.nx, [x0, x1, .ow b6, x3, .im (vq lo), .im (vq hi), .im (.lst (ps.map vq)), .im (.int t), .im (.lst [D.non, .bl true, .str "0", .tup [.int 2, .int 4], .tup [.int 1, .int 0], .lst [.int 1, .int 2], .tup [.int 1, .int (-1)], vq lo, vq hi, vq (hi + 1 / 7), vq (lo - 1 / 7), vq pt, an, .tup [vq lo, .int 1], .obj 0 (rlL 0 1 (lwOf []) (lsOf []))]), .im (.lst (cutD (ps.map vq) none (some t) ++ [th] ++ cutD (ps.map vq) (some t) none)), x10, x11]) := (xifs_ok (k := false) (xtest_ok (xo2 (xcb_ok (xc1 (xcall_ok (xc1 rfl (xc1 rfl (xc1 rfl xnil_ok))) q1) xnil_ok) hsb) (xcb_ok (xc1 (xcall_ok (xc1 rfl (xc1 rfl (xc1 rfl xnil_ok))) q2) xnil_ok) hsb) (ne_self sb)))).trans rfl
  have c9 : (xset 10 (xrevA (xv 6) (xop opSub (xc (.int 0)) (xc (.int 1))))) [x0, x1, .ow b6, x3, .im (vq lo), .im (vq hi), .im (.lst (ps.map vq)), .im (.int t), .im (.lst [D.non, .bl true, .str "0", .tup [.int 2, .int 4], .tup [.int 1, .int 0], .lst [.int 1, .int 2], .tup [.int 1, .int (-1)], vq lo, vq hi, vq (hi + 1 / 7), vq (lo - 1 / 7), vq pt, an, .tup [vq lo, .int 1], .obj 0 (rlL 0 1 (lwOf []) (lsOf []))]), .im (.lst (cutD (ps.map vq) none (some t) ++ [th] ++ cutD (ps.map vq) (some t) none)), x10, x11] = some (.nx, [x0, x1, .ow b6, x3, .im (vq lo), .im (vq hi), .im (.lst (ps.map vq)), .im (.int t), .im (.lst [D.non, .bl true, .str "0", .tup [.int 2, .int 4], .tup [.int 1, .int 0], .lst [.int 1, .int 2], .tup [.int 1, .int (-1)], vq lo, vq hi, vq (hi + 1 / 7), vq (lo - 1 / 7), vq pt, an, .tup [vq lo, .int 1], .obj 0 (rlL 0 1 (lwOf []) (lsOf []))]), .im (.lst (cutD (ps.map vq) none (some t) ++ [th] ++ cutD (ps.map vq) (some t) none)), .ol (ps.map vq).reverse, x11]) := xset_e (xrevA_ok (x := .im (.lst (ps.map vq))) (y := .im (.int (-1))) rfl rfl rfl rfl) rfl
  have dB : ∀ c, isSq c ((ps.map vq).reverse) → ∃ W, r_w_due [c, vq lo, vq hi] = some (.im W) ∧ W = (match wr lo hi none 0 (ps.reverse.map some) with | some j => .int j | none => .non) := fun c hc => by
    have d := due_s h1 h2 (c := c) (xs := ps.reverse.map fun q => (vq q, some q)) (by rw [List.map_map, List.map_reverse]; rw [← List.map_reverse] at hc; exact List.map_reverse ▸ hc) (fun p hp => by
      obtain ⟨q, hq, rfl⟩ := List.mem_map.mp hp
      exact pv_q k1 k2 hv hv2 (pin q (List.mem_reverse.mp hq)).1) (fun e => by
      have := congrArg List.length e
      rw [List.length_map, List.length_reverse] at this
      exact absurd this (by simp only [List.length_nil]; omega))
    rw [List.map_map] at d
    exact ⟨_, d, rfl⟩
  obtain ⟨rv, v1, v2, v3⟩ := ver (pt_of (c := .tup (ps.map vq).reverse) (.inr (.inl rfl)) (fun x hx => pp x (List.mem_reverse.mp hx)) (by rw [List.length_reverse]; omega))
  obtain ⟨W1, w1, e1⟩ := dB _ (.inr (.inl rfl))
  obtain ⟨W2, w2, e2⟩ := dB _ (.inl rfl)
  have w3 : rv = W2 := by
    rw [v2] at w1
    cases w1
    rw [e1, e2]
  subst w3
  have c10 : (xifs (xtest (xop opNe (xcall r_w_heard (xcons (xv 4) (xcons (xv 5) (xcons (xcb cbTuple (xcons (xv 10) xnil)) xnil)))) (xcall r_w_due (xcons (xv 10) (xcons (xv 4) (xcons (xv 5) xnil)))))) (xret (xc (.bl false))) xnext) [x0, x1, .ow b6, x3, .im (vq lo), .im (vq hi), .im (.lst (ps.map vq)), .im (.int t), .im (.lst [D.non, .bl true, .str "0", .tup [.int 2, .int 4], .tup [.int 1, .int 0], .lst [.int 1, .int 2], .tup [.int 1, .int (-1)], vq lo, vq hi, vq (hi + 1 / 7), vq (lo - 1 / 7), vq pt, an, .tup [vq lo, .int 1], .obj 0 (rlL 0 1 (lwOf []) (lsOf []))]), .im (.lst (cutD (ps.map vq) none (some t) ++ [th] ++ cutD (ps.map vq) (some t) none)), .ol (ps.map vq).reverse, x11] = some (.nx, [x0, x1, .ow b6, x3, .im (vq lo), .im (vq hi), .im (.lst (ps.map vq)), .im (.int t), .im (.lst [D.non, .bl true, .str "0", .tup [.int 2, .int 4], .tup [.int 1, .int 0], .lst [.int 1, .int 2], .tup [.int 1, .int (-1)], vq lo, vq hi, vq (hi + 1 / 7), vq (lo - 1 / 7), vq pt, an, .tup [vq lo, .int 1], .obj 0 (rlL 0 1 (lwOf []) (lsOf []))]), .im (.lst (cutD (ps.map vq) none (some t) ++ [th] ++ cutD (ps.map vq) (some t) none)), .im (.lst (ps.map vq).reverse), x11]) := (xifs_ok (k := false) (xtest_ok (xo2 (xcall_ok (xc1 rfl (xc1 rfl (xc1 (xcb_ok (xc1 rfl xnil_ok) rfl) xnil_ok))) v1) (xcall_ok (xc1 rfl (xc1 rfl (xc1 rfl xnil_ok))) w2) (ne6 v3)))).trans rfl
  obtain ⟨ini, lq, hps⟩ : ∃ (ini : List Rat) (lq : Rat), ps = ini ++ [lq] := by
    rcases List.eq_nil_or_concat ps with h | ⟨a, b, h⟩
    · rw [h] at pl0
      exact absurd pl0 (by simp)
    · exact ⟨a, b, by rw [h, List.concat_eq_append]⟩
  have hlast : cutD (ps.map vq) (some (-1)) none = [vq lq] := by
    rw [hps, List.map_append]
    exact cut_last
  have u3 : opAddB (.lst (ps.map vq)) (.lst (cutD (ps.map vq) (some (-1)) none)) = some (.ol ((ps.map vq) ++ [vq lq])) := by
    rw [hlast]
    exact if_pos (decide_eq_true (by rw [List.length_singleton]; omega))
  obtain ⟨ra, a3, a4, _⟩ := ver (pt_of (c := .lst ((ps.map vq) ++ [vq lq])) (.inl rfl) (fun x hx => by
    rcases List.mem_append.mp hx with hx | hx
    · exact pp x hx
    · rw [List.mem_singleton.mp hx]
      exact ⟨_, pv_q k1 k2 hv hv2 (pin lq (by rw [hps]; simp)).1⟩) (by rw [List.length_append, List.length_singleton]; omega))
  have dA := due_s h1 h2 (c := .lst ((ps.map vq) ++ [vq lq])) (xs := (ps ++ [lq]).map fun q => (vq q, some q)) (by rw [List.map_map, List.map_append]; exact .inl rfl) (fun p hp => by
    obtain ⟨q, hq, rfl⟩ := List.mem_map.mp hp
    rcases List.mem_append.mp hq with hq | hq
    · exact pv_q k1 k2 hv hv2 (pin q hq).1
    · rw [List.mem_singleton.mp hq]
      exact pv_q k1 k2 hv hv2 (pin lq (by rw [hps]; simp)).1) (fun e => by
    have := congrArg List.length e
    rw [List.length_map, List.length_append] at this
    exact absurd this (by simp only [List.length_nil]; omega))
  have e3 : ((ps ++ [lq]).map fun q => ((vq q, some q) : D × Option Rat)).map (·.2) = ps.map some ++ [some lq] := by rw [List.map_map, List.map_append]; rfl
  rw [e3, wr_again (q := lq) (l := none) srt (fun q hq => (pin q hq).2) (by rw [hps]; simp), a4] at dA
  have era : ra = .int ((ps.map vq).length : Int) := by
    cases dA
    rw [plm, Nat.zero_add]
  subst era
  have len9 : opNe (.int ((ps.map vq).length : Int)) (.int ((ps.map vq).length : Int)) = some (.im (.bl false)) := by
    show some (R.im (D.bl (!decide (((ps.map vq).length : Int) = ((ps.map vq).length : Int))))) = _
    rw [decide_eq_true rfl]
    rfl
  have c11 : (xifs (xtest (xop opNe (xcall r_w_heard (xcons (xv 4) (xcons (xv 5) (xcons (xop opAddB (xv 6) (xsl slB (xv 6) (xpart (xun unNeg (xc (.int 1)))) xnop)) xnil)))) (xcb cbLen (xcons (xv 6) xnil)))) (xret (xc (.bl false))) xnext) [x0, x1, .ow b6, x3, .im (vq lo), .im (vq hi), .im (.lst (ps.map vq)), .im (.int t), .im (.lst [D.non, .bl true, .str "0", .tup [.int 2, .int 4], .tup [.int 1, .int 0], .lst [.int 1, .int 2], .tup [.int 1, .int (-1)], vq lo, vq hi, vq (hi + 1 / 7), vq (lo - 1 / 7), vq pt, an, .tup [vq lo, .int 1], .obj 0 (rlL 0 1 (lwOf []) (lsOf []))]), .im (.lst (cutD (ps.map vq) none (some t) ++ [th] ++ cutD (ps.map vq) (some t) none)), .im (.lst (ps.map vq).reverse), x11] = some (.nx, [x0, x1, .ow b6, x3, .im (vq lo), .im (vq hi), .im (.lst (ps.map vq)), .im (.int t), .im (.lst [D.non, .bl true, .str "0", .tup [.int 2, .int 4], .tup [.int 1, .int 0], .lst [.int 1, .int 2], .tup [.int 1, .int (-1)], vq lo, vq hi, vq (hi + 1 / 7), vq (lo - 1 / 7), vq pt, an, .tup [vq lo, .int 1], .obj 0 (rlL 0 1 (lwOf []) (lsOf []))]), .im (.lst (cutD (ps.map vq) none (some t) ++ [th] ++ cutD (ps.map vq) (some t) none)), .im (.lst (ps.map vq).reverse), x11]) := (xifs_ok (k := false) (xtest_ok (xo2 (xcall_ok (xc1 rfl (xc1 rfl (xcw (xop_ok (x := .im (.lst (ps.map vq))) rfl (xsl_ok (x := .im (.lst (ps.map vq))) rfl rfl rfl rfl) u3) xnil_ok))) a3) (xcb_ok (xc1 rfl xnil_ok) rfl) len9))).trans rfl
  have th_ok : ∀ d ∈ [D.non, .int 3, .str "", .str "0", .lst [], .tup [], .bl true, vq lo], Pt lo hi d := fun d h => by
    simp only [List.mem_cons, List.not_mem_nil, or_false] at h
    rcases h with rfl | rfl | rfl | rfl | rfl | rfl | rfl | rfl
    · exact .inl ⟨rfl, rfl⟩
    · exact .inl ⟨rfl, rfl⟩
    · exact .inl ⟨rfl, rfl⟩
    · exact .inl ⟨rfl, rfl⟩
    · exact pt_of (l := []) (.inl rfl) (fun x hx => by cases hx) (by decide)
    · exact pt_of (l := []) (.inr (.inl rfl)) (fun x hx => by cases hx) (by decide)
    · exact .inl ⟨rfl, rfl⟩
    · refine pt_of (l := [.int lo.num, .int lo.den]) (.inr (.inl rfl)) (fun x hx => ?_) (by show 2 ≤ 5; decide)
      have q1 : lo.num.natAbs < 2 ^ 60 := (k1.up (show 4 ≤ 60 by decide)).1
      have q2 : (lo.den : Int).natAbs < 2 ^ 60 := (k1.up (show 4 ≤ 60 by decide)).2
      simp only [List.mem_cons, List.not_mem_nil, or_false] at hx
      rcases hx with rfl | rfl
      · exact ⟨_, pv_int (str_hs hv hv2) _ q1⟩
      · exact ⟨_, pv_int (str_hs hv hv2) _ q2⟩
  obtain ⟨Gf, f1, y11, rfl⟩ := xforL_inv (tg := tgn 11) (b := b_law_1) (fun G => ∃ y11, G = [x0, x1, .ow b6, x3, .im (vq lo), .im (vq hi), .im (.lst (ps.map vq)), .im (.int t), .im (.lst [D.non, .bl true, .str "0", .tup [.int 2, .int 4], .tup [.int 1, .int 0], .lst [.int 1, .int 2], .tup [.int 1, .int (-1)], vq lo, vq hi, vq (hi + 1 / 7), vq (lo - 1 / 7), vq pt, an, .tup [vq lo, .int 1], .obj 0 (rlL 0 1 (lwOf []) (lsOf []))]), .im (.lst (cutD (ps.map vq) none (some t) ++ [th] ++ cutD (ps.map vq) (some t) none)), .im (.lst (ps.map vq).reverse), y11]) (ds := [D.non, .int 3, .str "", .str "0", .lst [], .tup [], .bl true, vq lo]) (G := [x0, x1, .ow b6, x3, .im (vq lo), .im (vq hi), .im (.lst (ps.map vq)), .im (.int t), .im (.lst [D.non, .bl true, .str "0", .tup [.int 2, .int 4], .tup [.int 1, .int 0], .lst [.int 1, .int 2], .tup [.int 1, .int (-1)], vq lo, vq hi, vq (hi + 1 / 7), vq (lo - 1 / 7), vq pt, an, .tup [vq lo, .int 1], .obj 0 (rlL 0 1 (lwOf []) (lsOf []))]), .im (.lst (cutD (ps.map vq) none (some t) ++ [th] ++ cutD (ps.map vq) (some t) none)), .im (.lst (ps.map vq).reverse), x11]) ⟨_, rfl⟩ (fun d hd G hG => by
    obtain ⟨z, rfl⟩ := hG
    obtain ⟨rd, m1, m2, m3⟩ := ver (th_ok d hd)
    obtain ⟨sd, hsd⟩ := rep6 m3
    refine ⟨_, [x0, x1, .ow b6, x3, .im (vq lo), .im (vq hi), .im (.lst (ps.map vq)), .im (.int t), .im (.lst [D.non, .bl true, .str "0", .tup [.int 2, .int 4], .tup [.int 1, .int 0], .lst [.int 1, .int 2], .tup [.int 1, .int (-1)], vq lo, vq hi, vq (hi + 1 / 7), vq (lo - 1 / 7), vq pt, an, .tup [vq lo, .int 1], .obj 0 (rlL 0 1 (lwOf []) (lsOf []))]), .im (.lst (cutD (ps.map vq) none (some t) ++ [th] ++ cutD (ps.map vq) (some t) none)), .im (.lst (ps.map vq).reverse), .im d], rfl, .inl ?_, _, rfl⟩
    exact (xifs_ok (k := false) (xtest_ok (xo2 (xcb_ok (xc1 (xcall_ok (xc1 rfl (xc1 rfl (xc1 rfl xnil_ok))) m1) xnil_ok) hsd) (xcb_ok (xc1 (xcall_ok (xc1 rfl (xc1 rfl (xc1 rfl xnil_ok))) m2) xnil_ok) hsd) (ne_self sd)))).trans rfl)
  have c12 : (xfor (xseqI (xtup (xcons (xc .non) (xcons (xc (.int 3)) (xcons (xc (.str "")) (xcons (xc (.str "0")) (xcons (xlst xnil) (xcons (xtup xnil) (xcons (xc (.bl true)) (xcons (xv 4) xnil)))))))))) (tgn 11) b_law_1) [x0, x1, .ow b6, x3, .im (vq lo), .im (vq hi), .im (.lst (ps.map vq)), .im (.int t), .im (.lst [D.non, .bl true, .str "0", .tup [.int 2, .int 4], .tup [.int 1, .int 0], .lst [.int 1, .int 2], .tup [.int 1, .int (-1)], vq lo, vq hi, vq (hi + 1 / 7), vq (lo - 1 / 7), vq pt, an, .tup [vq lo, .int 1], .obj 0 (rlL 0 1 (lwOf []) (lsOf []))]), .im (.lst (cutD (ps.map vq) none (some t) ++ [th] ++ cutD (ps.map vq) (some t) none)), .im (.lst (ps.map vq).reverse), x11] = some (.nx, [x0, x1, .ow b6, x3, .im (vq lo), .im (vq hi), .im (.lst (ps.map vq)), .im (.int t), .im (.lst [D.non, .bl true, .str "0", .tup [.int 2, .int 4], .tup [.int 1, .int 0], .lst [.int 1, .int 2], .tup [.int 1, .int (-1)], vq lo, vq hi, vq (hi + 1 / 7), vq (lo - 1 / 7), vq pt, an, .tup [vq lo, .int 1], .obj 0 (rlL 0 1 (lwOf []) (lsOf []))]), .im (.lst (cutD (ps.map vq) none (some t) ++ [th] ++ cutD (ps.map vq) (some t) none)), .im (.lst (ps.map vq).reverse), y11]) := xfor_ok (by rfl) f1
  have hh1 : r_w_heard [vq hi, vq lo, .lst [.non]] = some (.im (.str "high")) := heard_w (eb_need h1 h2 ((en_rest (b := vq lo) (isV_vq hi) (need_v2 (isV_vq hi) (isV_vq lo) h2 h1)).trans (by rw [decide_eq_false (Rat.not_lt.mpr (Rat.le_of_lt hl))]; rfl)))
  have hh2 : r_w_heard [.non, vq hi, .lst []] = some (.im (.str "low")) := heard_w (eb_need h1 h2 (en_low ⟨rfl, rfl⟩))
  have hh3 : r_w_heard [vq lo, vq lo, .lst (ps.map vq)] = some (.im (.str "high")) := heard_w (eb_need h1 h2 ((en_rest (b := vq lo) (isV_vq lo) (need_v2 (isV_vq lo) (isV_vq lo) h1 h1)).trans (by rw [decide_eq_false Rat.lt_irrefl]; rfl)))
  have c13 : (xifs (xtor (xtest (xop opNe (xcall r_w_heard (xcons (xv 5) (xcons (xv 4) (xcons (xlst (xcons (xc .non) xnil)) xnil)))) (xc (.str "high")))) (xtest (xop opNe (xcall r_w_heard (xcons (xc .non) (xcons (xv 5) (xcons (xlst xnil) xnil)))) (xc (.str "low"))))) (xret (xc (.bl false))) xnext) [x0, x1, .ow b6, x3, .im (vq lo), .im (vq hi), .im (.lst (ps.map vq)), .im (.int t), .im (.lst [D.non, .bl true, .str "0", .tup [.int 2, .int 4], .tup [.int 1, .int 0], .lst [.int 1, .int 2], .tup [.int 1, .int (-1)], vq lo, vq hi, vq (hi + 1 / 7), vq (lo - 1 / 7), vq pt, an, .tup [vq lo, .int 1], .obj 0 (rlL 0 1 (lwOf []) (lsOf []))]), .im (.lst (cutD (ps.map vq) none (some t) ++ [th] ++ cutD (ps.map vq) (some t) none)), .im (.lst (ps.map vq).reverse), y11] = some (.nx, [x0, x1, .ow b6, x3, .im (vq lo), .im (vq hi), .im (.lst (ps.map vq)), .im (.int t), .im (.lst [D.non, .bl true, .str "0", .tup [.int 2, .int 4], .tup [.int 1, .int 0], .lst [.int 1, .int 2], .tup [.int 1, .int (-1)], vq lo, vq hi, vq (hi + 1 / 7), vq (lo - 1 / 7), vq pt, an, .tup [vq lo, .int 1], .obj 0 (rlL 0 1 (lwOf []) (lsOf []))]), .im (.lst (cutD (ps.map vq) none (some t) ++ [th] ++ cutD (ps.map vq) (some t) none)), .im (.lst (ps.map vq).reverse), y11]) := (xifs_ok (k := false) ((xtor_b (k := false) (l := false) (xtest_ok (xo2 (xcall_ok (xc1 rfl (xc1 rfl (xcw (xlst_ok (xc1 rfl xnil_ok) rfl) xnil_ok))) hh1) rfl rfl)) (xtest_ok (xo2 (xcall_ok (xc1 rfl (xc1 rfl (xcw (xlst_ok xnil_ok rfl) xnil_ok))) hh2) rfl rfl))).trans rfl)).trans rfl
  have c14 : (xifs (xtest (xop opNe (xcall r_w_heard (xcons (xv 4) (xcons (xv 4) (xcons (xv 6) xnil)))) (xc (.str "high")))) (xret (xc (.bl false))) xnext) [x0, x1, .ow b6, x3, .im (vq lo), .im (vq hi), .im (.lst (ps.map vq)), .im (.int t), .im (.lst [D.non, .bl true, .str "0", .tup [.int 2, .int 4], .tup [.int 1, .int 0], .lst [.int 1, .int 2], .tup [.int 1, .int (-1)], vq lo, vq hi, vq (hi + 1 / 7), vq (lo - 1 / 7), vq pt, an, .tup [vq lo, .int 1], .obj 0 (rlL 0 1 (lwOf []) (lsOf []))]), .im (.lst (cutD (ps.map vq) none (some t) ++ [th] ++ cutD (ps.map vq) (some t) none)), .im (.lst (ps.map vq).reverse), y11] = some (.nx, [x0, x1, .ow b6, x3, .im (vq lo), .im (vq hi), .im (.lst (ps.map vq)), .im (.int t), .im (.lst [D.non, .bl true, .str "0", .tup [.int 2, .int 4], .tup [.int 1, .int 0], .lst [.int 1, .int 2], .tup [.int 1, .int (-1)], vq lo, vq hi, vq (hi + 1 / 7), vq (lo - 1 / 7), vq pt, an, .tup [vq lo, .int 1], .obj 0 (rlL 0 1 (lwOf []) (lsOf []))]), .im (.lst (cutD (ps.map vq) none (some t) ++ [th] ++ cutD (ps.map vq) (some t) none)), .im (.lst (ps.map vq).reverse), y11]) := (xifs_ok (k := false) (xtest_ok (xo2 (xcall_ok (xc1 rfl (xc1 rfl (xc1 rfl xnil_ok))) hh3) rfl rfl))).trans rfl
  refine ⟨b6, .im (vq lo), .im (vq hi), .im (.lst (ps.map vq)), .im (.int t), .im (.lst [D.non, .bl true, .str "0", .tup [.int 2, .int 4], .tup [.int 1, .int 0], .lst [.int 1, .int 2], .tup [.int 1, .int (-1)], vq lo, vq hi, vq (hi + 1 / 7), vq (lo - 1 / 7), vq pt, an, .tup [vq lo, .int 1], .obj 0 (rlL 0 1 (lwOf []) (lsOf []))]), .im (.lst (cutD (ps.map vq) none (some t) ++ [th] ++ cutD (ps.map vq) (some t) none)), .im (.lst (ps.map vq).reverse), y11, ?_, hb6.up (by omega)⟩
  unfold b_law_2
  rw [xseq_nx c0, xseq_nx c1, xseq_nx c2, xseq_nx c3, xseq_nx c4, xseq_nx c5, xseq_nx c6, xseq_nx c7, xseq_nx c8, xseq_nx c9, xseq_nx c10, xseq_nx c11, xseq_nx c12, xseq_nx c13]
  exact c14
theorem law_true : ∀ ns : List Int, ns.length ≤ 63 → r_law [.frz (ns.map .int)] = some (.im (.bl true)) := fun ns hn => by
  have hlen : cbLen [.frz (ns.map .int)] = some (.im (.int ns.length)) := by
    show some (R.im (.int (((ns.map D.int).length : Nat) : Int))) = _
    rw [List.length_map]
  have e1 : xcb cbMax2 (xcons (xc (.int 2)) (xcons (xcb cbMin2 (xcons (xc (.int 4)) (xcons (xcb cbLen (xcons (xv 0) xnil)) xnil))) xnil)) [.im (.frz (ns.map .int)), .un, .un, .un, .un, .un, .un, .un, .un, .un, .un, .un] = some (.im (.int (if (if (ns.length : Int) < 4 then (ns.length : Int) else 4) > 2 then (if (ns.length : Int) < 4 then (ns.length : Int) else 4) else 2)), [.im (.frz (ns.map .int)), .un, .un, .un, .un, .un, .un, .un, .un, .un, .un, .un]) :=
    xcb_ok (xc1 rfl (xc1 (xcb_ok (xc1 rfl (xc1 (xcb_ok (xc1 rfl xnil_ok) hlen) xnil_ok)) rfl) xnil_ok)) rfl
  generalize hc : (if (if (ns.length : Int) < 4 then (ns.length : Int) else 4) > 2 then (if (ns.length : Int) < 4 then (ns.length : Int) else 4) else 2) = c at e1
  have c9 : 0 < c ∧ c ≤ 4 := by
    rw [← hc]
    split <;> (try split at *) <;> omega
  obtain ⟨G', g1, y1, y2, y3, y4, y5, y6, y7, y8, y9, y10, y11, rfl⟩ := xforL_inv (tg := tgn 1) (b := b_law_3) (fun G => ∃ y1 y2 y3 y4 y5 y6 y7 y8 y9 y10 y11, G = [Ent.im (.frz (ns.map .int)), y1, y2, y3, y4, y5, y6, y7, y8, y9, y10, y11]) (ds := rng 0 c.toNat) (G := [.im (.frz (ns.map .int)), .un, .un, .un, .un, .un, .un, .un, .un, .un, .un, .un]) ⟨_, _, _, _, _, _, _, _, _, _, _, rfl⟩ (fun e he G hG => by
    obtain ⟨y1, y2, y3, y4, y5, y6, y7, y8, y9, y10, y11, rfl⟩ := hG
    obtain ⟨k, hk, rfl⟩ := rng_mem he
    obtain ⟨bs, s1, s2⟩ := v_w_seed (ns := ns) (k := 0 + (k : Int)) (by omega) (by omega)
    obtain ⟨G2, g2, z, z3, z4, z5, z6, z7, z8, z9, z10, z11, rfl, hz⟩ := xforL_cnt (tg := tgn 3) (b := b_law_2) (fun n G => ∃ z z3 z4 z5 z6 z7 z8 z9 z10 z11, G = [Ent.im (.frz (ns.map .int)), .im (.int (0 + (k : Int))), .ow z, z3, z4, z5, z6, z7, z8, z9, z10, z11] ∧ Bw (0 + 60 * n) z) 6 (ds := rng 0 6) (n := 0) (G := [.im (.frz (ns.map .int)), .im (.int (0 + (k : Int))), .ow bs, y3, y4, y5, y6, y7, y8, y9, y10, y11])
      ⟨bs, _, _, _, _, _, _, _, _, _, rfl, s2⟩ (fun d hd n G hn hG => by
        obtain ⟨z, z3, z4, z5, z6, z7, z8, z9, z10, z11, rfl, hz⟩ := hG
        obtain ⟨b', w4, w5, w6, w7, w8, w9, w10, w11, w1, w2⟩ := lw2 (x0 := .im (.frz (ns.map .int))) (x1 := .im (.int (0 + (k : Int)))) (x3 := .im d) (x4 := z4) (x5 := z5) (x6 := z6) (x7 := z7) (x8 := z8) (x9 := z9) (x10 := z10) (x11 := z11) hz (by omega)
        exact ⟨_, _, rfl, w1, b', _, _, _, _, _, _, _, _, _, rfl, w2.up (by omega)⟩) (by rw [rng_ln]; decide)
    refine ⟨_, [Ent.im (.frz (ns.map .int)), .im (.int (0 + (k : Int))), .ow z, z3, z4, z5, z6, z7, z8, z9, z10, z11], rfl, .inl ?_, _, _, _, _, _, _, _, _, _, _, _, rfl⟩
    unfold b_law_3
    rw [xseq_nx (show _ = some (Fl.nx, [Ent.im (.frz (ns.map .int)), .im (.int (0 + (k : Int))), .ow bs, y3, y4, y5, y6, y7, y8, y9, y10, y11]) from xset_e (xcall_ok (xc1 rfl (xc1 rfl xnil_ok)) s1) rfl)]
    exact xfor_ok (xrange1_ok (n := 6) (xc1 rfl xnil_ok) (by decide)) g2)
  refine runF_st rfl ?_
  refine st_nx (by exact xfor_ok (xrange1_ok (xc1 e1 xnil_ok) (okR_of (by omega) (by omega))) g1) ?_
  rfl
end Bk
namespace Bk
open PySem L2 PyProof.Rows
theorem all_mk {l : PySem.W.OpenLaw} {w : World} {K : PySem.W.Frag} {h : Heap} {mg : PySem.Str → Option Value} {fa : Addr} (X : K.In h) (G : h.Ns mainGlobals mg) (hfa : mg "law" = some (.ref fa))
    {C_Rule : Addr} (aC_Rule : PySem.W.nsIn K mainGlobals (cName 0) = some (some (.ref C_Rule))) (pg_Rule : PySem.W.plainGet K C_Rule Str.empty = true) (hd_Rule : PySem.W.hasDictIn K C_Rule = true) (po_Rule : PySem.W.plainOver K C_Rule = true) (sa_Rule : PySem.W.findIn K (.ref C_Rule) "__setattr__" = some (some (.builtin "object.__setattr__")))
    (na_Rule_0 : PySem.W.findIn K (.ref C_Rule) "low" = some none)
    (na_Rule_1 : PySem.W.findIn K (.ref C_Rule) "high" = some none)
    (na_Rule_2 : PySem.W.findIn K (.ref C_Rule) "weights" = some none)
    (na_Rule_3 : PySem.W.findIn K (.ref C_Rule) "shares" = some none)
    {f_is_sequence : Addr} {od_is_sequence an_is_sequence : Option Addr} {sl_is_sequence : Array (Option Value)} {oc_is_sequence kV_is_sequence dc_is_sequence pc_is_sequence cd_is_sequence ct_is_sequence : Value}
    (a_is_sequence : PySem.W.nsIn K mainGlobals "is_sequence" = some (some (.ref f_is_sequence))) (l_is_sequence : K.lookup f_is_sequence = some ⟨oc_is_sequence, od_is_sequence, .func (PySem.W.fnOf "is_sequence" "is_sequence" (defArgs s_is_sequence) (defBody s_is_sequence) (defScope s_is_sequence) .none kV_is_sequence dc_is_sequence pc_is_sequence an_is_sequence cd_is_sequence ct_is_sequence), sl_is_sequence⟩) (c_is_sequence : PySem.W.codeIn K cd_is_sequence "is_sequence" = true) (k_is_sequence : PySem.W.keepIn K (.ref f_is_sequence) = true)
    {f_is_less : Addr} {od_is_less an_is_less : Option Addr} {sl_is_less : Array (Option Value)} {oc_is_less kV_is_less dc_is_less pc_is_less cd_is_less ct_is_less : Value}
    (a_is_less : PySem.W.nsIn K mainGlobals "is_less" = some (some (.ref f_is_less))) (l_is_less : K.lookup f_is_less = some ⟨oc_is_less, od_is_less, .func (PySem.W.fnOf "is_less" "is_less" (defArgs s_is_less) (defBody s_is_less) (defScope s_is_less) .none kV_is_less dc_is_less pc_is_less an_is_less cd_is_less ct_is_less), sl_is_less⟩) (c_is_less : PySem.W.codeIn K cd_is_less "is_less" = true) (k_is_less : PySem.W.keepIn K (.ref f_is_less) = true)
    {f_is_integer : Addr} {od_is_integer an_is_integer : Option Addr} {sl_is_integer : Array (Option Value)} {oc_is_integer kV_is_integer dc_is_integer pc_is_integer cd_is_integer ct_is_integer : Value}
    (a_is_integer : PySem.W.nsIn K mainGlobals "is_integer" = some (some (.ref f_is_integer))) (l_is_integer : K.lookup f_is_integer = some ⟨oc_is_integer, od_is_integer, .func (PySem.W.fnOf "is_integer" "is_integer" (defArgs s_is_integer) (defBody s_is_integer) (defScope s_is_integer) .none kV_is_integer dc_is_integer pc_is_integer an_is_integer cd_is_integer ct_is_integer), sl_is_integer⟩) (c_is_integer : PySem.W.codeIn K cd_is_integer "is_integer" = true) (k_is_integer : PySem.W.keepIn K (.ref f_is_integer) = true)
    {f_divisor : Addr} {od_divisor an_divisor : Option Addr} {sl_divisor : Array (Option Value)} {oc_divisor kV_divisor dc_divisor pc_divisor cd_divisor ct_divisor : Value}
    (a_divisor : PySem.W.nsIn K mainGlobals "divisor" = some (some (.ref f_divisor))) (l_divisor : K.lookup f_divisor = some ⟨oc_divisor, od_divisor, .func (PySem.W.fnOf "divisor" "divisor" (defArgs s_divisor) (defBody s_divisor) (defScope s_divisor) .none kV_divisor dc_divisor pc_divisor an_divisor cd_divisor ct_divisor), sl_divisor⟩) (c_divisor : PySem.W.codeIn K cd_divisor "divisor" = true) (k_divisor : PySem.W.keepIn K (.ref f_divisor) = true)
    {f_is_pair : Addr} {od_is_pair an_is_pair : Option Addr} {sl_is_pair : Array (Option Value)} {oc_is_pair kV_is_pair dc_is_pair pc_is_pair cd_is_pair ct_is_pair : Value}
    (a_is_pair : PySem.W.nsIn K mainGlobals "is_pair" = some (some (.ref f_is_pair))) (l_is_pair : K.lookup f_is_pair = some ⟨oc_is_pair, od_is_pair, .func (PySem.W.fnOf "is_pair" "is_pair" (defArgs s_is_pair) (defBody s_is_pair) (defScope s_is_pair) .none kV_is_pair dc_is_pair pc_is_pair an_is_pair cd_is_pair ct_is_pair), sl_is_pair⟩) (c_is_pair : PySem.W.codeIn K cd_is_pair "is_pair" = true) (k_is_pair : PySem.W.keepIn K (.ref f_is_pair) = true)
    {f_is_value : Addr} {od_is_value an_is_value : Option Addr} {sl_is_value : Array (Option Value)} {oc_is_value kV_is_value dc_is_value pc_is_value cd_is_value ct_is_value : Value}
    (a_is_value : PySem.W.nsIn K mainGlobals "is_value" = some (some (.ref f_is_value))) (l_is_value : K.lookup f_is_value = some ⟨oc_is_value, od_is_value, .func (PySem.W.fnOf "is_value" "is_value" (defArgs s_is_value) (defBody s_is_value) (defScope s_is_value) .none kV_is_value dc_is_value pc_is_value an_is_value cd_is_value ct_is_value), sl_is_value⟩) (c_is_value : PySem.W.codeIn K cd_is_value "is_value" = true) (k_is_value : PySem.W.keepIn K (.ref f_is_value) = true)
    {f_value_of : Addr} {od_value_of an_value_of : Option Addr} {sl_value_of : Array (Option Value)} {oc_value_of kV_value_of dc_value_of pc_value_of cd_value_of ct_value_of : Value}
    (a_value_of : PySem.W.nsIn K mainGlobals "value_of" = some (some (.ref f_value_of))) (l_value_of : K.lookup f_value_of = some ⟨oc_value_of, od_value_of, .func (PySem.W.fnOf "value_of" "value_of" (defArgs s_value_of) (defBody s_value_of) (defScope s_value_of) .none kV_value_of dc_value_of pc_value_of an_value_of cd_value_of ct_value_of), sl_value_of⟩) (c_value_of : PySem.W.codeIn K cd_value_of "value_of" = true) (k_value_of : PySem.W.keepIn K (.ref f_value_of) = true)
    {f_is_between : Addr} {od_is_between an_is_between : Option Addr} {sl_is_between : Array (Option Value)} {oc_is_between kV_is_between dc_is_between pc_is_between cd_is_between ct_is_between : Value}
    (a_is_between : PySem.W.nsIn K mainGlobals "is_between" = some (some (.ref f_is_between))) (l_is_between : K.lookup f_is_between = some ⟨oc_is_between, od_is_between, .func (PySem.W.fnOf "is_between" "is_between" (defArgs s_is_between) (defBody s_is_between) (defScope s_is_between) .none kV_is_between dc_is_between pc_is_between an_is_between cd_is_between ct_is_between), sl_is_between⟩) (c_is_between : PySem.W.codeIn K cd_is_between "is_between" = true) (k_is_between : PySem.W.keepIn K (.ref f_is_between) = true)
    {f_is_share : Addr} {od_is_share an_is_share : Option Addr} {sl_is_share : Array (Option Value)} {oc_is_share kV_is_share dc_is_share pc_is_share cd_is_share ct_is_share : Value}
    (a_is_share : PySem.W.nsIn K mainGlobals "is_share" = some (some (.ref f_is_share))) (l_is_share : K.lookup f_is_share = some ⟨oc_is_share, od_is_share, .func (PySem.W.fnOf "is_share" "is_share" (defArgs s_is_share) (defBody s_is_share) (defScope s_is_share) .none kV_is_share dc_is_share pc_is_share an_is_share cd_is_share ct_is_share), sl_is_share⟩) (c_is_share : PySem.W.codeIn K cd_is_share "is_share" = true) (k_is_share : PySem.W.keepIn K (.ref f_is_share) = true)
    {f_is_weight : Addr} {od_is_weight an_is_weight : Option Addr} {sl_is_weight : Array (Option Value)} {oc_is_weight kV_is_weight dc_is_weight pc_is_weight cd_is_weight ct_is_weight : Value}
    (a_is_weight : PySem.W.nsIn K mainGlobals "is_weight" = some (some (.ref f_is_weight))) (l_is_weight : K.lookup f_is_weight = some ⟨oc_is_weight, od_is_weight, .func (PySem.W.fnOf "is_weight" "is_weight" (defArgs s_is_weight) (defBody s_is_weight) (defScope s_is_weight) .none kV_is_weight dc_is_weight pc_is_weight an_is_weight cd_is_weight ct_is_weight), sl_is_weight⟩) (c_is_weight : PySem.W.codeIn K cd_is_weight "is_weight" = true) (k_is_weight : PySem.W.keepIn K (.ref f_is_weight) = true)
    {f_ascending : Addr} {od_ascending an_ascending : Option Addr} {sl_ascending : Array (Option Value)} {oc_ascending kV_ascending dc_ascending pc_ascending cd_ascending ct_ascending : Value}
    (a_ascending : PySem.W.nsIn K mainGlobals "ascending" = some (some (.ref f_ascending))) (l_ascending : K.lookup f_ascending = some ⟨oc_ascending, od_ascending, .func (PySem.W.fnOf "ascending" "ascending" (defArgs s_ascending) (defBody s_ascending) (defScope s_ascending) .none kV_ascending dc_ascending pc_ascending an_ascending cd_ascending ct_ascending), sl_ascending⟩) (c_ascending : PySem.W.codeIn K cd_ascending "ascending" = true) (k_ascending : PySem.W.keepIn K (.ref f_ascending) = true)
    {f_lowest : Addr} {od_lowest an_lowest : Option Addr} {sl_lowest : Array (Option Value)} {oc_lowest kV_lowest dc_lowest pc_lowest cd_lowest ct_lowest : Value}
    (a_lowest : PySem.W.nsIn K mainGlobals "lowest" = some (some (.ref f_lowest))) (l_lowest : K.lookup f_lowest = some ⟨oc_lowest, od_lowest, .func (PySem.W.fnOf "lowest" "lowest" (defArgs s_lowest) (defBody s_lowest) (defScope s_lowest) .none kV_lowest dc_lowest pc_lowest an_lowest cd_lowest ct_lowest), sl_lowest⟩) (c_lowest : PySem.W.codeIn K cd_lowest "lowest" = true) (k_lowest : PySem.W.keepIn K (.ref f_lowest) = true)
    {f_added : Addr} {od_added an_added : Option Addr} {sl_added : Array (Option Value)} {oc_added kV_added dc_added pc_added cd_added ct_added : Value}
    (a_added : PySem.W.nsIn K mainGlobals "added" = some (some (.ref f_added))) (l_added : K.lookup f_added = some ⟨oc_added, od_added, .func (PySem.W.fnOf "added" "added" (defArgs s_added) (defBody s_added) (defScope s_added) .none kV_added dc_added pc_added an_added cd_added ct_added), sl_added⟩) (c_added : PySem.W.codeIn K cd_added "added" = true) (k_added : PySem.W.keepIn K (.ref f_added) = true)
    {f_summed : Addr} {od_summed an_summed : Option Addr} {sl_summed : Array (Option Value)} {oc_summed kV_summed dc_summed pc_summed cd_summed ct_summed : Value}
    (a_summed : PySem.W.nsIn K mainGlobals "summed" = some (some (.ref f_summed))) (l_summed : K.lookup f_summed = some ⟨oc_summed, od_summed, .func (PySem.W.fnOf "summed" "summed" (defArgs s_summed) (defBody s_summed) (defScope s_summed) .none kV_summed dc_summed pc_summed an_summed cd_summed ct_summed), sl_summed⟩) (c_summed : PySem.W.codeIn K cd_summed "summed" = true) (k_summed : PySem.W.keepIn K (.ref f_summed) = true)
    {f_least_shares : Addr} {od_least_shares an_least_shares : Option Addr} {sl_least_shares : Array (Option Value)} {oc_least_shares kV_least_shares dc_least_shares pc_least_shares cd_least_shares ct_least_shares : Value}
    (a_least_shares : PySem.W.nsIn K mainGlobals "least_shares" = some (some (.ref f_least_shares))) (l_least_shares : K.lookup f_least_shares = some ⟨oc_least_shares, od_least_shares, .func (PySem.W.fnOf "least_shares" "least_shares" (defArgs s_least_shares) (defBody s_least_shares) (defScope s_least_shares) .none kV_least_shares dc_least_shares pc_least_shares an_least_shares cd_least_shares ct_least_shares), sl_least_shares⟩) (c_least_shares : PySem.W.codeIn K cd_least_shares "least_shares" = true) (k_least_shares : PySem.W.keepIn K (.ref f_least_shares) = true)
    {f_least_weights : Addr} {od_least_weights an_least_weights : Option Addr} {sl_least_weights : Array (Option Value)} {oc_least_weights kV_least_weights dc_least_weights pc_least_weights cd_least_weights ct_least_weights : Value}
    (a_least_weights : PySem.W.nsIn K mainGlobals "least_weights" = some (some (.ref f_least_weights))) (l_least_weights : K.lookup f_least_weights = some ⟨oc_least_weights, od_least_weights, .func (PySem.W.fnOf "least_weights" "least_weights" (defArgs s_least_weights) (defBody s_least_weights) (defScope s_least_weights) .none kV_least_weights dc_least_weights pc_least_weights an_least_weights cd_least_weights ct_least_weights), sl_least_weights⟩) (c_least_weights : PySem.W.codeIn K cd_least_weights "least_weights" = true) (k_least_weights : PySem.W.keepIn K (.ref f_least_weights) = true)
    {f_need_stretch : Addr} {od_need_stretch an_need_stretch : Option Addr} {sl_need_stretch : Array (Option Value)} {oc_need_stretch kV_need_stretch dc_need_stretch pc_need_stretch cd_need_stretch ct_need_stretch : Value}
    (a_need_stretch : PySem.W.nsIn K mainGlobals "need_stretch" = some (some (.ref f_need_stretch))) (l_need_stretch : K.lookup f_need_stretch = some ⟨oc_need_stretch, od_need_stretch, .func (PySem.W.fnOf "need_stretch" "need_stretch" (defArgs s_need_stretch) (defBody s_need_stretch) (defScope s_need_stretch) .none kV_need_stretch dc_need_stretch pc_need_stretch an_need_stretch cd_need_stretch ct_need_stretch), sl_need_stretch⟩) (c_need_stretch : PySem.W.codeIn K cd_need_stretch "need_stretch" = true) (k_need_stretch : PySem.W.keepIn K (.ref f_need_stretch) = true)
    {f_Rule_init : Addr} {od_Rule_init an_Rule_init : Option Addr} {sl_Rule_init : Array (Option Value)} {oc_Rule_init kV_Rule_init dc_Rule_init pc_Rule_init cd_Rule_init ct_Rule_init : Value}
    {dT_Rule_init : Addr} {oT_Rule_init : Obj} {gi_Rule_init : List Value} {gn_Rule_init : Nat} (t_Rule_init : K.lookup dT_Rule_init = some oT_Rule_init) (td_Rule_init : oT_Rule_init.data = .seq gi_Rule_init.toArray gn_Rule_init) (v_Rule_init : ∃ vs, Vals vs gi_Rule_init ∧ ∀ H, DRs K H vs [.tup [], .tup []])
    (a_Rule_init : PySem.W.findIn K (.ref C_Rule) "__init__" = some (some (.ref f_Rule_init))) (l_Rule_init : K.lookup f_Rule_init = some ⟨oc_Rule_init, od_Rule_init, .func (PySem.W.fnOf "__init__" "Rule.__init__" (defArgs s_Rule_init) (defBody s_Rule_init) (defScope s_Rule_init) (.ref dT_Rule_init) kV_Rule_init dc_Rule_init pc_Rule_init an_Rule_init cd_Rule_init ct_Rule_init), sl_Rule_init⟩) (c_Rule_init : PySem.W.codeIn K cd_Rule_init "Rule.__init__" = true) (k_Rule_init : PySem.W.keepIn K (.ref f_Rule_init) = true)
    (i_Rule_init : PySem.W.isFn K (.ref f_Rule_init) = true)
    (mk_Rule : PySem.W.makesIn K C_Rule = true) (kc_Rule : PySem.W.keepIn K (.ref C_Rule) = true)
    {f_w_choose : Addr} {od_w_choose an_w_choose : Option Addr} {sl_w_choose : Array (Option Value)} {oc_w_choose kV_w_choose dc_w_choose pc_w_choose cd_w_choose ct_w_choose : Value}
    (a_w_choose : PySem.W.nsIn K mainGlobals "_law_choose" = some (some (.ref f_w_choose))) (l_w_choose : K.lookup f_w_choose = some ⟨oc_w_choose, od_w_choose, .func (PySem.W.fnOf "_law_choose" "_law_choose" (defArgs s_w_choose) (defBody s_w_choose) (defScope s_w_choose) .none kV_w_choose dc_w_choose pc_w_choose an_w_choose cd_w_choose ct_w_choose), sl_w_choose⟩) (c_w_choose : PySem.W.codeIn K cd_w_choose "_law_choose" = true) (k_w_choose : PySem.W.keepIn K (.ref f_w_choose) = true)
    {f_w_one_of : Addr} {od_w_one_of an_w_one_of : Option Addr} {sl_w_one_of : Array (Option Value)} {oc_w_one_of kV_w_one_of dc_w_one_of pc_w_one_of cd_w_one_of ct_w_one_of : Value}
    (a_w_one_of : PySem.W.nsIn K mainGlobals "_law_one_of" = some (some (.ref f_w_one_of))) (l_w_one_of : K.lookup f_w_one_of = some ⟨oc_w_one_of, od_w_one_of, .func (PySem.W.fnOf "_law_one_of" "_law_one_of" (defArgs s_w_one_of) (defBody s_w_one_of) (defScope s_w_one_of) .none kV_w_one_of dc_w_one_of pc_w_one_of an_w_one_of cd_w_one_of ct_w_one_of), sl_w_one_of⟩) (c_w_one_of : PySem.W.codeIn K cd_w_one_of "_law_one_of" = true) (k_w_one_of : PySem.W.keepIn K (.ref f_w_one_of) = true)
    {f_w_anything : Addr} {od_w_anything an_w_anything : Option Addr} {sl_w_anything : Array (Option Value)} {oc_w_anything kV_w_anything dc_w_anything pc_w_anything cd_w_anything ct_w_anything : Value}
    (a_w_anything : PySem.W.nsIn K mainGlobals "_law_anything" = some (some (.ref f_w_anything))) (l_w_anything : K.lookup f_w_anything = some ⟨oc_w_anything, od_w_anything, .func (PySem.W.fnOf "_law_anything" "_law_anything" (defArgs s_w_anything) (defBody s_w_anything) (defScope s_w_anything) .none kV_w_anything dc_w_anything pc_w_anything an_w_anything cd_w_anything ct_w_anything), sl_w_anything⟩) (c_w_anything : PySem.W.codeIn K cd_w_anything "_law_anything" = true) (k_w_anything : PySem.W.keepIn K (.ref f_w_anything) = true)
    {f_w_less : Addr} {od_w_less an_w_less : Option Addr} {sl_w_less : Array (Option Value)} {oc_w_less kV_w_less dc_w_less pc_w_less cd_w_less ct_w_less : Value}
    (a_w_less : PySem.W.nsIn K mainGlobals "_law_less" = some (some (.ref f_w_less))) (l_w_less : K.lookup f_w_less = some ⟨oc_w_less, od_w_less, .func (PySem.W.fnOf "_law_less" "_law_less" (defArgs s_w_less) (defBody s_w_less) (defScope s_w_less) .none kV_w_less dc_w_less pc_w_less an_w_less cd_w_less ct_w_less), sl_w_less⟩) (c_w_less : PySem.W.codeIn K cd_w_less "_law_less" = true) (k_w_less : PySem.W.keepIn K (.ref f_w_less) = true)
    {f_w_divisor : Addr} {od_w_divisor an_w_divisor : Option Addr} {sl_w_divisor : Array (Option Value)} {oc_w_divisor kV_w_divisor dc_w_divisor pc_w_divisor cd_w_divisor ct_w_divisor : Value}
    (a_w_divisor : PySem.W.nsIn K mainGlobals "_law_divisor" = some (some (.ref f_w_divisor))) (l_w_divisor : K.lookup f_w_divisor = some ⟨oc_w_divisor, od_w_divisor, .func (PySem.W.fnOf "_law_divisor" "_law_divisor" (defArgs s_w_divisor) (defBody s_w_divisor) (defScope s_w_divisor) .none kV_w_divisor dc_w_divisor pc_w_divisor an_w_divisor cd_w_divisor ct_w_divisor), sl_w_divisor⟩) (c_w_divisor : PySem.W.codeIn K cd_w_divisor "_law_divisor" = true) (k_w_divisor : PySem.W.keepIn K (.ref f_w_divisor) = true)
    {f_w_pair : Addr} {od_w_pair an_w_pair : Option Addr} {sl_w_pair : Array (Option Value)} {oc_w_pair kV_w_pair dc_w_pair pc_w_pair cd_w_pair ct_w_pair : Value}
    (a_w_pair : PySem.W.nsIn K mainGlobals "_law_pair" = some (some (.ref f_w_pair))) (l_w_pair : K.lookup f_w_pair = some ⟨oc_w_pair, od_w_pair, .func (PySem.W.fnOf "_law_pair" "_law_pair" (defArgs s_w_pair) (defBody s_w_pair) (defScope s_w_pair) .none kV_w_pair dc_w_pair pc_w_pair an_w_pair cd_w_pair ct_w_pair), sl_w_pair⟩) (c_w_pair : PySem.W.codeIn K cd_w_pair "_law_pair" = true) (k_w_pair : PySem.W.keepIn K (.ref f_w_pair) = true)
    {f_w_due : Addr} {od_w_due an_w_due : Option Addr} {sl_w_due : Array (Option Value)} {oc_w_due kV_w_due dc_w_due pc_w_due cd_w_due ct_w_due : Value}
    (a_w_due : PySem.W.nsIn K mainGlobals "_law_due" = some (some (.ref f_w_due))) (l_w_due : K.lookup f_w_due = some ⟨oc_w_due, od_w_due, .func (PySem.W.fnOf "_law_due" "_law_due" (defArgs s_w_due) (defBody s_w_due) (defScope s_w_due) .none kV_w_due dc_w_due pc_w_due an_w_due cd_w_due ct_w_due), sl_w_due⟩) (c_w_due : PySem.W.codeIn K cd_w_due "_law_due" = true) (k_w_due : PySem.W.keepIn K (.ref f_w_due) = true)
    {f_area : Addr} {od_area an_area : Option Addr} {sl_area : Array (Option Value)} {oc_area kV_area dc_area pc_area cd_area ct_area : Value}
    (a_area : PySem.W.nsIn K mainGlobals "area" = some (some (.ref f_area))) (l_area : K.lookup f_area = some ⟨oc_area, od_area, .func (PySem.W.fnOf "area" "area" (defArgs s_area) (defBody s_area) (defScope s_area) .none kV_area dc_area pc_area an_area cd_area ct_area), sl_area⟩) (c_area : PySem.W.codeIn K cd_area "area" = true) (k_area : PySem.W.keepIn K (.ref f_area) = true)
    {f_need_points : Addr} {od_need_points an_need_points : Option Addr} {sl_need_points : Array (Option Value)} {oc_need_points kV_need_points dc_need_points pc_need_points cd_need_points ct_need_points : Value}
    (a_need_points : PySem.W.nsIn K mainGlobals "need_points" = some (some (.ref f_need_points))) (l_need_points : K.lookup f_need_points = some ⟨oc_need_points, od_need_points, .func (PySem.W.fnOf "need_points" "need_points" (defArgs s_need_points) (defBody s_need_points) (defScope s_need_points) .none kV_need_points dc_need_points pc_need_points an_need_points cd_need_points ct_need_points), sl_need_points⟩) (c_need_points : PySem.W.codeIn K cd_need_points "need_points" = true) (k_need_points : PySem.W.keepIn K (.ref f_need_points) = true)
    {f_less_by : Addr} {od_less_by an_less_by : Option Addr} {sl_less_by : Array (Option Value)} {oc_less_by kV_less_by dc_less_by pc_less_by cd_less_by ct_less_by : Value}
    (a_less_by : PySem.W.nsIn K mainGlobals "less_by" = some (some (.ref f_less_by))) (l_less_by : K.lookup f_less_by = some ⟨oc_less_by, od_less_by, .func (PySem.W.fnOf "less_by" "less_by" (defArgs s_less_by) (defBody s_less_by) (defScope s_less_by) .none kV_less_by dc_less_by pc_less_by an_less_by cd_less_by ct_less_by), sl_less_by⟩) (c_less_by : PySem.W.codeIn K cd_less_by "less_by" = true) (k_less_by : PySem.W.keepIn K (.ref f_less_by) = true)
    {f_multiplied : Addr} {od_multiplied an_multiplied : Option Addr} {sl_multiplied : Array (Option Value)} {oc_multiplied kV_multiplied dc_multiplied pc_multiplied cd_multiplied ct_multiplied : Value}
    (a_multiplied : PySem.W.nsIn K mainGlobals "multiplied" = some (some (.ref f_multiplied))) (l_multiplied : K.lookup f_multiplied = some ⟨oc_multiplied, od_multiplied, .func (PySem.W.fnOf "multiplied" "multiplied" (defArgs s_multiplied) (defBody s_multiplied) (defScope s_multiplied) .none kV_multiplied dc_multiplied pc_multiplied an_multiplied cd_multiplied ct_multiplied), sl_multiplied⟩) (c_multiplied : PySem.W.codeIn K cd_multiplied "multiplied" = true) (k_multiplied : PySem.W.keepIn K (.ref f_multiplied) = true)
    {f_quotient : Addr} {od_quotient an_quotient : Option Addr} {sl_quotient : Array (Option Value)} {oc_quotient kV_quotient dc_quotient pc_quotient cd_quotient ct_quotient : Value}
    (a_quotient : PySem.W.nsIn K mainGlobals "quotient" = some (some (.ref f_quotient))) (l_quotient : K.lookup f_quotient = some ⟨oc_quotient, od_quotient, .func (PySem.W.fnOf "quotient" "quotient" (defArgs s_quotient) (defBody s_quotient) (defScope s_quotient) .none kV_quotient dc_quotient pc_quotient an_quotient cd_quotient ct_quotient), sl_quotient⟩) (c_quotient : PySem.W.codeIn K cd_quotient "quotient" = true) (k_quotient : PySem.W.keepIn K (.ref f_quotient) = true)
    {f_powers_of : Addr} {od_powers_of an_powers_of : Option Addr} {sl_powers_of : Array (Option Value)} {oc_powers_of kV_powers_of dc_powers_of pc_powers_of cd_powers_of ct_powers_of : Value}
    (a_powers_of : PySem.W.nsIn K mainGlobals "powers_of" = some (some (.ref f_powers_of))) (l_powers_of : K.lookup f_powers_of = some ⟨oc_powers_of, od_powers_of, .func (PySem.W.fnOf "powers_of" "powers_of" (defArgs s_powers_of) (defBody s_powers_of) (defScope s_powers_of) .none kV_powers_of dc_powers_of pc_powers_of an_powers_of cd_powers_of ct_powers_of), sl_powers_of⟩) (c_powers_of : PySem.W.codeIn K cd_powers_of "powers_of" = true) (k_powers_of : PySem.W.keepIn K (.ref f_powers_of) = true)
    {f_area_powers : Addr} {od_area_powers an_area_powers : Option Addr} {sl_area_powers : Array (Option Value)} {oc_area_powers kV_area_powers dc_area_powers pc_area_powers cd_area_powers ct_area_powers : Value}
    (a_area_powers : PySem.W.nsIn K mainGlobals "area_powers" = some (some (.ref f_area_powers))) (l_area_powers : K.lookup f_area_powers = some ⟨oc_area_powers, od_area_powers, .func (PySem.W.fnOf "area_powers" "area_powers" (defArgs s_area_powers) (defBody s_area_powers) (defScope s_area_powers) .none kV_area_powers dc_area_powers pc_area_powers an_area_powers cd_area_powers ct_area_powers), sl_area_powers⟩) (c_area_powers : PySem.W.codeIn K cd_area_powers "area_powers" = true) (k_area_powers : PySem.W.keepIn K (.ref f_area_powers) = true)
    {f_value_at : Addr} {od_value_at an_value_at : Option Addr} {sl_value_at : Array (Option Value)} {oc_value_at kV_value_at dc_value_at pc_value_at cd_value_at ct_value_at : Value}
    (a_value_at : PySem.W.nsIn K mainGlobals "value_at" = some (some (.ref f_value_at))) (l_value_at : K.lookup f_value_at = some ⟨oc_value_at, od_value_at, .func (PySem.W.fnOf "value_at" "value_at" (defArgs s_value_at) (defBody s_value_at) (defScope s_value_at) .none kV_value_at dc_value_at pc_value_at an_value_at cd_value_at ct_value_at), sl_value_at⟩) (c_value_at : PySem.W.codeIn K cd_value_at "value_at" = true) (k_value_at : PySem.W.keepIn K (.ref f_value_at) = true)
    {f_told : Addr} {od_told an_told : Option Addr} {sl_told : Array (Option Value)} {oc_told kV_told dc_told pc_told cd_told ct_told : Value}
    (a_told : PySem.W.nsIn K mainGlobals "told" = some (some (.ref f_told))) (l_told : K.lookup f_told = some ⟨oc_told, od_told, .func (PySem.W.fnOf "told" "told" (defArgs s_told) (defBody s_told) (defScope s_told) .none kV_told dc_told pc_told an_told cd_told ct_told), sl_told⟩) (c_told : PySem.W.codeIn K cd_told "told" = true) (k_told : PySem.W.keepIn K (.ref f_told) = true)
    {f_best : Addr} {od_best an_best : Option Addr} {sl_best : Array (Option Value)} {oc_best kV_best dc_best pc_best cd_best ct_best : Value}
    (a_best : PySem.W.nsIn K mainGlobals "best" = some (some (.ref f_best))) (l_best : K.lookup f_best = some ⟨oc_best, od_best, .func (PySem.W.fnOf "best" "best" (defArgs s_best) (defBody s_best) (defScope s_best) .none kV_best dc_best pc_best an_best cd_best ct_best), sl_best⟩) (c_best : PySem.W.codeIn K cd_best "best" = true) (k_best : PySem.W.keepIn K (.ref f_best) = true)
    {f_w_heard : Addr} {od_w_heard an_w_heard : Option Addr} {sl_w_heard : Array (Option Value)} {oc_w_heard kV_w_heard dc_w_heard pc_w_heard cd_w_heard ct_w_heard : Value}
    (a_w_heard : PySem.W.nsIn K mainGlobals "_law_heard" = some (some (.ref f_w_heard))) (l_w_heard : K.lookup f_w_heard = some ⟨oc_w_heard, od_w_heard, .func (PySem.W.fnOf "_law_heard" "_law_heard" (defArgs s_w_heard) (defBody s_w_heard) (defScope s_w_heard) .none kV_w_heard dc_w_heard pc_w_heard an_w_heard cd_w_heard ct_w_heard), sl_w_heard⟩) (c_w_heard : PySem.W.codeIn K cd_w_heard "_law_heard" = true) (k_w_heard : PySem.W.keepIn K (.ref f_w_heard) = true)
    {f_w_lowest : Addr} {od_w_lowest an_w_lowest : Option Addr} {sl_w_lowest : Array (Option Value)} {oc_w_lowest kV_w_lowest dc_w_lowest pc_w_lowest cd_w_lowest ct_w_lowest : Value}
    (a_w_lowest : PySem.W.nsIn K mainGlobals "_law_lowest" = some (some (.ref f_w_lowest))) (l_w_lowest : K.lookup f_w_lowest = some ⟨oc_w_lowest, od_w_lowest, .func (PySem.W.fnOf "_law_lowest" "_law_lowest" (defArgs s_w_lowest) (defBody s_w_lowest) (defScope s_w_lowest) .none kV_w_lowest dc_w_lowest pc_w_lowest an_w_lowest cd_w_lowest ct_w_lowest), sl_w_lowest⟩) (c_w_lowest : PySem.W.codeIn K cd_w_lowest "_law_lowest" = true) (k_w_lowest : PySem.W.keepIn K (.ref f_w_lowest) = true)
    {f_w_minus : Addr} {od_w_minus an_w_minus : Option Addr} {sl_w_minus : Array (Option Value)} {oc_w_minus kV_w_minus dc_w_minus pc_w_minus cd_w_minus ct_w_minus : Value}
    (a_w_minus : PySem.W.nsIn K mainGlobals "_law_minus" = some (some (.ref f_w_minus))) (l_w_minus : K.lookup f_w_minus = some ⟨oc_w_minus, od_w_minus, .func (PySem.W.fnOf "_law_minus" "_law_minus" (defArgs s_w_minus) (defBody s_w_minus) (defScope s_w_minus) .none kV_w_minus dc_w_minus pc_w_minus an_w_minus cd_w_minus ct_w_minus), sl_w_minus⟩) (c_w_minus : PySem.W.codeIn K cd_w_minus "_law_minus" = true) (k_w_minus : PySem.W.keepIn K (.ref f_w_minus) = true)
    {f_w_plus : Addr} {od_w_plus an_w_plus : Option Addr} {sl_w_plus : Array (Option Value)} {oc_w_plus kV_w_plus dc_w_plus pc_w_plus cd_w_plus ct_w_plus : Value}
    (a_w_plus : PySem.W.nsIn K mainGlobals "_law_plus" = some (some (.ref f_w_plus))) (l_w_plus : K.lookup f_w_plus = some ⟨oc_w_plus, od_w_plus, .func (PySem.W.fnOf "_law_plus" "_law_plus" (defArgs s_w_plus) (defBody s_w_plus) (defScope s_w_plus) .none kV_w_plus dc_w_plus pc_w_plus an_w_plus cd_w_plus ct_w_plus), sl_w_plus⟩) (c_w_plus : PySem.W.codeIn K cd_w_plus "_law_plus" = true) (k_w_plus : PySem.W.keepIn K (.ref f_w_plus) = true)
    {f_w_times : Addr} {od_w_times an_w_times : Option Addr} {sl_w_times : Array (Option Value)} {oc_w_times kV_w_times dc_w_times pc_w_times cd_w_times ct_w_times : Value}
    (a_w_times : PySem.W.nsIn K mainGlobals "_law_times" = some (some (.ref f_w_times))) (l_w_times : K.lookup f_w_times = some ⟨oc_w_times, od_w_times, .func (PySem.W.fnOf "_law_times" "_law_times" (defArgs s_w_times) (defBody s_w_times) (defScope s_w_times) .none kV_w_times dc_w_times pc_w_times an_w_times cd_w_times ct_w_times), sl_w_times⟩) (c_w_times : PySem.W.codeIn K cd_w_times "_law_times" = true) (k_w_times : PySem.W.keepIn K (.ref f_w_times) = true)
    {f_w_point : Addr} {od_w_point an_w_point : Option Addr} {sl_w_point : Array (Option Value)} {oc_w_point kV_w_point dc_w_point pc_w_point cd_w_point ct_w_point : Value}
    (a_w_point : PySem.W.nsIn K mainGlobals "_law_point" = some (some (.ref f_w_point))) (l_w_point : K.lookup f_w_point = some ⟨oc_w_point, od_w_point, .func (PySem.W.fnOf "_law_point" "_law_point" (defArgs s_w_point) (defBody s_w_point) (defScope s_w_point) .none kV_w_point dc_w_point pc_w_point an_w_point cd_w_point ct_w_point), sl_w_point⟩) (c_w_point : PySem.W.codeIn K cd_w_point "_law_point" = true) (k_w_point : PySem.W.keepIn K (.ref f_w_point) = true)
    {f_w_rising : Addr} {od_w_rising an_w_rising : Option Addr} {sl_w_rising : Array (Option Value)} {oc_w_rising kV_w_rising dc_w_rising pc_w_rising cd_w_rising ct_w_rising : Value}
    (a_w_rising : PySem.W.nsIn K mainGlobals "_law_rising" = some (some (.ref f_w_rising))) (l_w_rising : K.lookup f_w_rising = some ⟨oc_w_rising, od_w_rising, .func (PySem.W.fnOf "_law_rising" "_law_rising" (defArgs s_w_rising) (defBody s_w_rising) (defScope s_w_rising) .none kV_w_rising dc_w_rising pc_w_rising an_w_rising cd_w_rising ct_w_rising), sl_w_rising⟩) (c_w_rising : PySem.W.codeIn K cd_w_rising "_law_rising" = true) (k_w_rising : PySem.W.keepIn K (.ref f_w_rising) = true)
    {f_w_points : Addr} {od_w_points an_w_points : Option Addr} {sl_w_points : Array (Option Value)} {oc_w_points kV_w_points dc_w_points pc_w_points cd_w_points ct_w_points : Value}
    (a_w_points : PySem.W.nsIn K mainGlobals "_law_points" = some (some (.ref f_w_points))) (l_w_points : K.lookup f_w_points = some ⟨oc_w_points, od_w_points, .func (PySem.W.fnOf "_law_points" "_law_points" (defArgs s_w_points) (defBody s_w_points) (defScope s_w_points) .none kV_w_points dc_w_points pc_w_points an_w_points cd_w_points ct_w_points), sl_w_points⟩) (c_w_points : PySem.W.codeIn K cd_w_points "_law_points" = true) (k_w_points : PySem.W.keepIn K (.ref f_w_points) = true)
    {f_w_seed : Addr} {od_w_seed an_w_seed : Option Addr} {sl_w_seed : Array (Option Value)} {oc_w_seed kV_w_seed dc_w_seed pc_w_seed cd_w_seed ct_w_seed : Value}
    (a_w_seed : PySem.W.nsIn K mainGlobals "_law_seed" = some (some (.ref f_w_seed))) (l_w_seed : K.lookup f_w_seed = some ⟨oc_w_seed, od_w_seed, .func (PySem.W.fnOf "_law_seed" "_law_seed" (defArgs s_w_seed) (defBody s_w_seed) (defScope s_w_seed) .none kV_w_seed dc_w_seed pc_w_seed an_w_seed cd_w_seed ct_w_seed), sl_w_seed⟩) (c_w_seed : PySem.W.codeIn K cd_w_seed "_law_seed" = true) (k_w_seed : PySem.W.keepIn K (.ref f_w_seed) = true)
    {f_w_fraction : Addr} {od_w_fraction an_w_fraction : Option Addr} {sl_w_fraction : Array (Option Value)} {oc_w_fraction kV_w_fraction dc_w_fraction pc_w_fraction cd_w_fraction ct_w_fraction : Value}
    (a_w_fraction : PySem.W.nsIn K mainGlobals "_law_fraction" = some (some (.ref f_w_fraction))) (l_w_fraction : K.lookup f_w_fraction = some ⟨oc_w_fraction, od_w_fraction, .func (PySem.W.fnOf "_law_fraction" "_law_fraction" (defArgs s_w_fraction) (defBody s_w_fraction) (defScope s_w_fraction) .none kV_w_fraction dc_w_fraction pc_w_fraction an_w_fraction cd_w_fraction ct_w_fraction), sl_w_fraction⟩) (c_w_fraction : PySem.W.codeIn K cd_w_fraction "_law_fraction" = true) (k_w_fraction : PySem.W.keepIn K (.ref f_w_fraction) = true)
    {f_w_stretch : Addr} {od_w_stretch an_w_stretch : Option Addr} {sl_w_stretch : Array (Option Value)} {oc_w_stretch kV_w_stretch dc_w_stretch pc_w_stretch cd_w_stretch ct_w_stretch : Value}
    (a_w_stretch : PySem.W.nsIn K mainGlobals "_law_stretch" = some (some (.ref f_w_stretch))) (l_w_stretch : K.lookup f_w_stretch = some ⟨oc_w_stretch, od_w_stretch, .func (PySem.W.fnOf "_law_stretch" "_law_stretch" (defArgs s_w_stretch) (defBody s_w_stretch) (defScope s_w_stretch) .none kV_w_stretch dc_w_stretch pc_w_stretch an_w_stretch cd_w_stretch ct_w_stretch), sl_w_stretch⟩) (c_w_stretch : PySem.W.codeIn K cd_w_stretch "_law_stretch" = true) (k_w_stretch : PySem.W.keepIn K (.ref f_w_stretch) = true)
    {f_law : Addr} {od_law an_law : Option Addr} {sl_law : Array (Option Value)} {oc_law kV_law dc_law pc_law cd_law ct_law : Value}
    (a_law : PySem.W.nsIn K mainGlobals "law" = some (some (.ref f_law))) (l_law : K.lookup f_law = some ⟨oc_law, od_law, .func (PySem.W.fnOf "law" "law" (defArgs s_law) (defBody s_law) (defScope s_law) .none kV_law dc_law pc_law an_law cd_law ct_law), sl_law⟩) (c_law : PySem.W.codeIn K cd_law "law" = true) (k_law : PySem.W.keepIn K (.ref f_law) = true)
    (is1_Rule : PySem.W.findIn K (.ref C_Rule) "__class__" = some (some (.builtin "object.__class__"))) (is2_Rule : PySem.W.specialIn K (.builtin "object.__class__") "__get__" = some (some (.builtin "getset_descriptor.__get__"))) (is3_Rule : PySem.W.takesIn K (.builtin "object.__class__") = some true) (is4_Rule : PySem.W.mroIn K C_Rule (.type "object") = some true) (is5_Rule : PySem.W.kitOne K (.ref C_Rule) (.ref C_Rule) = some true)
    (ut0_Rule : PySem.W.kitOne K (.ref C_Rule) (.type "int") = some false)
    (ut1_Rule : PySem.W.kitOne K (.ref C_Rule) (.type "bool") = some false)
    (ut2_Rule : PySem.W.kitOne K (.ref C_Rule) (.type "str") = some false)
    (ut3_Rule : PySem.W.kitOne K (.ref C_Rule) (.type "list") = some false)
    (ut4_Rule : PySem.W.kitOne K (.ref C_Rule) (.type "tuple") = some false)
    {g_NOUGHT : Addr} {gd_NOUGHT : Option Addr} {gi_NOUGHT : Array Value} {gn_NOUGHT : Nat} {gs_NOUGHT : Array (Option Value)} (a_NOUGHT : PySem.W.nsIn K mainGlobals "NOUGHT" = some (some (.ref g_NOUGHT))) (l_NOUGHT : K.lookup g_NOUGHT = some ⟨.type "tuple", gd_NOUGHT, .seq gi_NOUGHT gn_NOUGHT, gs_NOUGHT⟩) (v_NOUGHT : gi_NOUGHT.size ≤ sizeLine ∧ ∃ vs, Vals vs gi_NOUGHT.toList ∧ ∀ H, DRs K H vs [.int (0), .int (1)])
    {g_ONE : Addr} {gd_ONE : Option Addr} {gi_ONE : Array Value} {gn_ONE : Nat} {gs_ONE : Array (Option Value)} (a_ONE : PySem.W.nsIn K mainGlobals "ONE" = some (some (.ref g_ONE))) (l_ONE : K.lookup g_ONE = some ⟨.type "tuple", gd_ONE, .seq gi_ONE gn_ONE, gs_ONE⟩) (v_ONE : gi_ONE.size ≤ sizeLine ∧ ∃ vs, Vals vs gi_ONE.toList ∧ ∀ H, DRs K H vs [.int (1), .int (1)])
    (z_abs : PySem.W.nsIn K mainGlobals "abs" = some none)
    (z_all : PySem.W.nsIn K mainGlobals "all" = some none)
    (z_bool : PySem.W.nsIn K mainGlobals "bool" = some none)
    (z_enumerate : PySem.W.nsIn K mainGlobals "enumerate" = some none)
    (z_int : PySem.W.nsIn K mainGlobals "int" = some none)
    (z_isinstance : PySem.W.nsIn K mainGlobals "isinstance" = some none)
    (z_len : PySem.W.nsIn K mainGlobals "len" = some none)
    (z_list : PySem.W.nsIn K mainGlobals "list" = some none)
    (z_max : PySem.W.nsIn K mainGlobals "max" = some none)
    (z_min : PySem.W.nsIn K mainGlobals "min" = some none)
    (z_range : PySem.W.nsIn K mainGlobals "range" = some none)
    (z_repr : PySem.W.nsIn K mainGlobals "repr" = some none)
    (z_sorted : PySem.W.nsIn K mainGlobals "sorted" = some none)
    (z_tuple : PySem.W.nsIn K mainGlobals "tuple" = some none)
    (z_zip : PySem.W.nsIn K mainGlobals "zip" = some none)
    {C_X0 fI_X0 cda_X0 cc_X0 N_X0 : Addr} {nm_X0 qn_X0 fl_X0 : PySem.Str} {tf_X0 : Tok} {bs_X0 bm_X0 sub_X0 : List Value} {sn_X0 : List PySem.Str} {ab_X0 : Bool} {col_X0 : Option Bool} {dd_X0 od_X0 an_X0 cdd_X0 cld_X0 : Option Addr} {m0_X0 m1_X0 m2_X0 m3_X0 m5_X0 : Option Value} {oc_X0 kV_X0 dc_X0 pc_X0 ct_X0 ccl_X0 cl_X0 : Value} {sl_X0 ccs_X0 csl_X0 : Array (Option Value)} {vs_X0 : Array Value}
    (aC_X0 : PySem.W.nsIn K mainGlobals "InvalidRule" = some (some (.ref C_X0)))
    (x_X0 : K.lookup C_X0 = some (PySem.excClassObj nm_X0 qn_X0 C_X0 N_X0 bs_X0 bm_X0 true sn_X0 sub_X0 ab_X0 col_X0 dd_X0 m0_X0 m1_X0 m2_X0 m3_X0 m5_X0 "ValueError.__new__")) (rv_X0 : PySem.HandSPX.refsVE bm_X0 = true)
    (iC_X0 : PySem.W.findIn K (.ref C_X0) "__init__" = some (some (.ref fI_X0))) (tC_X0 : PySem.W.typeIn K (.ref fI_X0) = some (.type "function")) (kC_X0 : PySem.W.keepIn K (.ref C_X0) = true) (eC_X0 : PySem.W.subIn K (.ref C_X0) (.type "BaseException") = some true) (va_X0 : PySem.W.subIn K (.ref C_X0) (.type "ValueError") = some true) (ty_X0 : PySem.W.typeIn K (.ref C_X0) = some (.type "type"))
    (sp_X0 : PySem.W.ks_superIn K C_X0 C_X0 "__init__" = some (some (.builtin "ValueError.__init__"))) (mr_X0 : PySem.W.mroIn K C_X0 (.ref C_X0) = some true)
    (sa_X0 : PySem.W.findIn K (.ref C_X0) "__setattr__" = some (some (.builtin "object.__setattr__"))) (na_X0 : PySem.W.findIn K (.ref C_X0) "word" = some none)
    (l_X0 : K.lookup fI_X0 = some ⟨oc_X0, od_X0, .func (PySem.W.fnX "__init__" "InvalidRule.__init__" (defArgs s_X0) (defBody s_X0) (defScope s_X0) [("__class__", cc_X0)] .none kV_X0 dc_X0 pc_X0 an_X0 (.ref cda_X0) ct_X0), sl_X0⟩) (c_X0 : PySem.W.codeIn K (.ref cda_X0) "InvalidRule.__init__" = true)
    (ld_X0 : K.lookup cda_X0 = some ⟨ccl_X0, cdd_X0, .fields vs_X0, ccs_X0⟩) (vs2_X0 : vs_X0[2]? = some (.str fl_X0 tf_X0)) (lc_X0 : K.lookup cc_X0 = some ⟨cl_X0, cld_X0, .cell (some (.ref C_X0)), csl_X0⟩)
    (hg_X0 : PySem.W.findIn K (.ref C_X0) "__getattribute__" = some (some (.builtin "BaseException.__getattribute__"))) (hk_X0 : PySem.W.findIn K (.ref C_X0) "__getattr__" = some none) (hd_X0 : PySem.W.hasDictIn K C_X0 = true) (ha_X0 : PySem.W.findIn K (.ref C_X0) "__class__" = some (some (.builtin "object.__class__"))) (hm_X0 : PySem.W.mroIn K C_X0 (.type "object") = some true)
    (hPf_X0 : ((l.prog.main.file : PySem.Str) == fl_X0) = true)
    {C_X2 fI_X2 cda_X2 cc_X2 N_X2 : Addr} {nm_X2 qn_X2 fl_X2 : PySem.Str} {tf_X2 : Tok} {bs_X2 bm_X2 sub_X2 : List Value} {sn_X2 : List PySem.Str} {ab_X2 : Bool} {col_X2 : Option Bool} {dd_X2 od_X2 an_X2 cdd_X2 cld_X2 : Option Addr} {m0_X2 m1_X2 m2_X2 m3_X2 m5_X2 : Option Value} {oc_X2 kV_X2 dc_X2 pc_X2 ct_X2 ccl_X2 cl_X2 : Value} {sl_X2 ccs_X2 csl_X2 : Array (Option Value)} {vs_X2 : Array Value}
    (aC_X2 : PySem.W.nsIn K mainGlobals "InvalidPoints" = some (some (.ref C_X2)))
    (x_X2 : K.lookup C_X2 = some (PySem.excClassObj nm_X2 qn_X2 C_X2 N_X2 bs_X2 bm_X2 true sn_X2 sub_X2 ab_X2 col_X2 dd_X2 m0_X2 m1_X2 m2_X2 m3_X2 m5_X2 "ValueError.__new__")) (rv_X2 : PySem.HandSPX.refsVE bm_X2 = true)
    (iC_X2 : PySem.W.findIn K (.ref C_X2) "__init__" = some (some (.ref fI_X2))) (tC_X2 : PySem.W.typeIn K (.ref fI_X2) = some (.type "function")) (kC_X2 : PySem.W.keepIn K (.ref C_X2) = true) (eC_X2 : PySem.W.subIn K (.ref C_X2) (.type "BaseException") = some true) (va_X2 : PySem.W.subIn K (.ref C_X2) (.type "ValueError") = some true) (ty_X2 : PySem.W.typeIn K (.ref C_X2) = some (.type "type"))
    (sp_X2 : PySem.W.ks_superIn K C_X2 C_X2 "__init__" = some (some (.builtin "ValueError.__init__"))) (mr_X2 : PySem.W.mroIn K C_X2 (.ref C_X2) = some true)
    (sa_X2 : PySem.W.findIn K (.ref C_X2) "__setattr__" = some (some (.builtin "object.__setattr__"))) (na_X2 : PySem.W.findIn K (.ref C_X2) "at" = some none)
    (l_X2 : K.lookup fI_X2 = some ⟨oc_X2, od_X2, .func (PySem.W.fnX "__init__" "InvalidPoints.__init__" (defArgs s_X2) (defBody s_X2) (defScope s_X2) [("__class__", cc_X2)] .none kV_X2 dc_X2 pc_X2 an_X2 (.ref cda_X2) ct_X2), sl_X2⟩) (c_X2 : PySem.W.codeIn K (.ref cda_X2) "InvalidPoints.__init__" = true)
    (ld_X2 : K.lookup cda_X2 = some ⟨ccl_X2, cdd_X2, .fields vs_X2, ccs_X2⟩) (vs2_X2 : vs_X2[2]? = some (.str fl_X2 tf_X2)) (lc_X2 : K.lookup cc_X2 = some ⟨cl_X2, cld_X2, .cell (some (.ref C_X2)), csl_X2⟩)
    (hg_X2 : PySem.W.findIn K (.ref C_X2) "__getattribute__" = some (some (.builtin "BaseException.__getattribute__"))) (hk_X2 : PySem.W.findIn K (.ref C_X2) "__getattr__" = some none) (hd_X2 : PySem.W.hasDictIn K C_X2 = true) (ha_X2 : PySem.W.findIn K (.ref C_X2) "__class__" = some (some (.builtin "object.__class__"))) (hm_X2 : PySem.W.mroIn K C_X2 (.type "object") = some true)
    (hPf_X2 : ((l.prog.main.file : PySem.Str) == fl_X2) = true)
    (ta_X : PySem.W.nsIn K cStatics "thirdparty.any" = some none) (zs_X : PySem.W.nsIn K mainGlobals "super" = some none) (hn_X : PySem.W.specialIn K (.builtin "object.__class__") "__get__" = some (some (.builtin "getset_descriptor.__get__"))) (ht_X : PySem.W.takesIn K (.builtin "object.__class__") = some true) (hPt_X : (l.prog.main.scope.names.lookup ("super" : PySem.Str)).isSome = false)
    {CB_BendError : Addr} (aB_BendError : PySem.W.nsIn K mainGlobals "BendError" = some (some (.ref CB_BendError)))
    (ki_2_BendError : PySem.W.kitOne K (.ref C_X2) (.ref CB_BendError) = some true)
    (ki_2_InvalidRule : PySem.W.kitOne K (.ref C_X2) (.ref C_X0) = some false)
    (xs_0_0 : PySem.W.subIn K (.ref C_X0) (.ref C_X0) = some true)
    (xs_0_2 : PySem.W.subIn K (.ref C_X0) (.ref C_X2) = some false)
    (xs_2_0 : PySem.W.subIn K (.ref C_X2) (.ref C_X0) = some false)
    (xs_2_2 : PySem.W.subIn K (.ref C_X2) (.ref C_X2) = some true)
    : ∃ fd : FuncData, (∀ (s : Shared) (u : Value), BindsTo s fd ⟨[u], []⟩ [("_law_script", u)]) ∧ ∀ (base : Heap) (s : Shared) (H : Hp) (a : Addr) (Q : VK), K.In base → base.Ns mainGlobals mg → Env0 l.prog w K mg base callerA [] s H → BindsTo s fd ⟨[.ref a], []⟩ [("_law_script", .ref a)] → spF K r_law [.ref a] H Q E0 →
      codeAny (model l.prog w) callerA (.call (.ref fa) ⟨[.ref a], []⟩) (CR CX0 [] l.prog w H s Q E0) s := by
  have e := hfa.symm.trans (PySem.W.mg_of X G a_law)
  cases e
  have utxt_X0 : PySem.UnvX.Txt K C_X0 fI_X0 fl_X0 "InvalidRule.__init__" "word" := by
    obtain ⟨p1, p2, q0, q1, q2, q3, q4, q5, a1, a2, a3, a4, m, j, e1, e2, e3⟩ := uB_X0
    rw [e1, e2] at l_X0
    exact ⟨⟨_, _, _, _, _, _, _, _, _, _, _, _, _, _, _, x_X0, rv_X0⟩, iC_X0, tC_X0, kC_X0, eC_X0, va_X0, ty_X0, sp_X0, mr_X0, ta_X, sa_X0, na_X0, ⟨_, _, _, _, _, _, _, _, _, _, _, _, _, _, _, _, _, _, _, _, _, _, _, _, _, _, _, _, _, _, _, _, _,  l_X0, c_X0, uS_X0, rfl, e3, ld_X0, vs2_X0, lc_X0⟩⟩
  have utxt_X2 : PySem.UnvX.Txt K C_X2 fI_X2 fl_X2 "InvalidPoints.__init__" "at" := by
    obtain ⟨p1, p2, q0, q1, q2, q3, q4, q5, a1, a2, a3, a4, m, j, e1, e2, e3⟩ := uB_X2
    rw [e1, e2] at l_X2
    exact ⟨⟨_, _, _, _, _, _, _, _, _, _, _, _, _, _, _, x_X2, rv_X2⟩, iC_X2, tC_X2, kC_X2, eC_X2, va_X2, ty_X2, sp_X2, mr_X2, ta_X, sa_X2, na_X2, ⟨_, _, _, _, _, _, _, _, _, _, _, _, _, _, _, _, _, _, _, _, _, _, _, _, _, _, _, _, _, _, _, _, _,  l_X2, c_X2, uS_X2, rfl, e3, ld_X2, vs2_X2, lc_X2⟩⟩
  have T : ∃ T : Txt K mg, T.law = fnT X G a_law l_law c_law k_law ∧ HPs T l.prog := ⟨{ Rule := ⟨C_Rule, PySem.W.mg_of X G aC_Rule, aC_Rule, ⟨pg_Rule, hd_Rule, po_Rule, sa_Rule⟩, na_list4 na_Rule_0 na_Rule_1 na_Rule_2 na_Rule_3⟩, is_sequence := fnT X G a_is_sequence l_is_sequence c_is_sequence k_is_sequence, is_less := fnT X G a_is_less l_is_less c_is_less k_is_less, is_integer := fnT X G a_is_integer l_is_integer c_is_integer k_is_integer, divisor := fnT X G a_divisor l_divisor c_divisor k_divisor, is_pair := fnT X G a_is_pair l_is_pair c_is_pair k_is_pair, is_value := fnT X G a_is_value l_is_value c_is_value k_is_value, value_of := fnT X G a_value_of l_value_of c_value_of k_value_of, is_between := fnT X G a_is_between l_is_between c_is_between k_is_between, is_share := fnT X G a_is_share l_is_share c_is_share k_is_share, is_weight := fnT X G a_is_weight l_is_weight c_is_weight k_is_weight, ascending := fnT X G a_ascending l_ascending c_ascending k_ascending, lowest := fnT X G a_lowest l_lowest c_lowest k_lowest, added := fnT X G a_added l_added c_added k_added, summed := fnT X G a_summed l_summed c_summed k_summed, least_shares := fnT X G a_least_shares l_least_shares c_least_shares k_least_shares, least_weights := fnT X G a_least_weights l_least_weights c_least_weights k_least_weights, need_stretch := fnT X G a_need_stretch l_need_stretch c_need_stretch k_need_stretch, Rule_init := ⟨f_Rule_init, _, v_Rule_init.choose, ⟨⟨_, _, _, _, _, _, _, _, _, _, rfl, l_Rule_init, c_Rule_init, .inr ⟨vne v_Rule_init.choose_spec.2 rfl, _, _, _, _, rfl, t_Rule_init, td_Rule_init, v_Rule_init.choose_spec.1⟩, .inl rfl⟩, k_Rule_init⟩, ⟨a_Rule_init, i_Rule_init, k_Rule_init⟩, v_Rule_init.choose_spec.2⟩, mk_Rule := ⟨mk_Rule, a_Rule_init, i_Rule_init, kc_Rule⟩, w_choose := fnT X G a_w_choose l_w_choose c_w_choose k_w_choose, w_one_of := fnT X G a_w_one_of l_w_one_of c_w_one_of k_w_one_of, w_anything := fnT X G a_w_anything l_w_anything c_w_anything k_w_anything, w_less := fnT X G a_w_less l_w_less c_w_less k_w_less, w_divisor := fnT X G a_w_divisor l_w_divisor c_w_divisor k_w_divisor, w_pair := fnT X G a_w_pair l_w_pair c_w_pair k_w_pair, w_due := fnT X G a_w_due l_w_due c_w_due k_w_due, area := fnT X G a_area l_area c_area k_area, need_points := fnT X G a_need_points l_need_points c_need_points k_need_points, less_by := fnT X G a_less_by l_less_by c_less_by k_less_by, multiplied := fnT X G a_multiplied l_multiplied c_multiplied k_multiplied, quotient := fnT X G a_quotient l_quotient c_quotient k_quotient, powers_of := fnT X G a_powers_of l_powers_of c_powers_of k_powers_of, area_powers := fnT X G a_area_powers l_area_powers c_area_powers k_area_powers, value_at := fnT X G a_value_at l_value_at c_value_at k_value_at, told := fnT X G a_told l_told c_told k_told, best := fnT X G a_best l_best c_best k_best, w_heard := fnT X G a_w_heard l_w_heard c_w_heard k_w_heard, w_lowest := fnT X G a_w_lowest l_w_lowest c_w_lowest k_w_lowest, w_minus := fnT X G a_w_minus l_w_minus c_w_minus k_w_minus, w_plus := fnT X G a_w_plus l_w_plus c_w_plus k_w_plus, w_times := fnT X G a_w_times l_w_times c_w_times k_w_times, w_point := fnT X G a_w_point l_w_point c_w_point k_w_point, w_rising := fnT X G a_w_rising l_w_rising c_w_rising k_w_rising, w_points := fnT X G a_w_points l_w_points c_w_points k_w_points, w_seed := fnT X G a_w_seed l_w_seed c_w_seed k_w_seed, w_fraction := fnT X G a_w_fraction l_w_fraction c_w_fraction k_w_fraction, w_stretch := fnT X G a_w_stretch l_w_stretch c_w_stretch k_w_stretch, law := fnT X G a_law l_law c_law k_law, iu_Rule := ⟨⟨⟨pg_Rule, hd_Rule, po_Rule, sa_Rule⟩, is1_Rule, is2_Rule, is3_Rule, is4_Rule, is5_Rule⟩, ut_list ut0_Rule ut1_Rule ut2_Rule ut3_Rule ut4_Rule⟩, NOUGHT := coTup X G a_NOUGHT l_NOUGHT v_NOUGHT.1 (Classical.choose_spec v_NOUGHT.2).1 (Classical.choose_spec v_NOUGHT.2).2, ONE := coTup X G a_ONE l_ONE v_ONE.1 (Classical.choose_spec v_ONE.2).1 (Classical.choose_spec v_ONE.2).2, abs := PySem.W.mg_none_of X G z_abs, all := PySem.W.mg_none_of X G z_all, bool := PySem.W.mg_none_of X G z_bool, enumerate := PySem.W.mg_none_of X G z_enumerate, int := PySem.W.mg_none_of X G z_int, isinstance := PySem.W.mg_none_of X G z_isinstance, len := PySem.W.mg_none_of X G z_len, list := PySem.W.mg_none_of X G z_list, max := PySem.W.mg_none_of X G z_max, min := PySem.W.mg_none_of X G z_min, range := PySem.W.mg_none_of X G z_range, repr := PySem.W.mg_none_of X G z_repr, sorted := PySem.W.mg_none_of X G z_sorted, tuple := PySem.W.mg_none_of X G z_tuple, zip := PySem.W.mg_none_of X G z_zip, X0 := ⟨C_X0, fI_X0, fl_X0, "InvalidRule.__init__", utxt_X0, aC_X0, PySem.W.mg_of X G aC_X0, ⟨hg_X0, hk_X0, eC_X0, hd_X0, ha_X0, hn_X, ht_X, hm_X0⟩, ⟨hg_X0, hk_X0, eC_X0, hd_X0⟩⟩, X2 := ⟨C_X2, fI_X2, fl_X2, "InvalidPoints.__init__", utxt_X2, aC_X2, PySem.W.mg_of X G aC_X2, ⟨hg_X2, hk_X2, eC_X2, hd_X2, ha_X2, hn_X, ht_X, hm_X2⟩, ⟨hg_X2, hk_X2, eC_X2, hd_X2⟩⟩, su := PySem.W.mg_none_of X G zs_X, XB_BendError := ⟨CB_BendError, PySem.W.mg_of X G aB_BendError⟩, XB_InvalidRule := ⟨C_X0, PySem.W.mg_of X G aC_X0⟩, ki_2_BendError := ki_2_BendError, ki_2_InvalidRule := ki_2_InvalidRule, ex_0_0 := PySem.W.exm_ref eC_X0 hd_X0 ty_X0 xs_0_0, ex_0_2 := PySem.W.exm_ref eC_X2 hd_X2 ty_X2 xs_0_2, ex_2_0 := PySem.W.exm_ref eC_X0 hd_X0 ty_X0 xs_2_0, ex_2_2 := PySem.W.exm_ref eC_X2 hd_X2 ty_X2 xs_2_2 }, rfl, ⟨⟨hPf_X0, hPt_X⟩, ⟨hPf_X2, hPt_X⟩⟩⟩
  obtain ⟨T, hT, hP⟩ := T
  refine ⟨(fnT X G a_law l_law c_law k_law).fd, fun s v => .of_eq rfl, fun base s H a Q _ _ e0 bd0 q => ?_⟩
  have z := ok_law (P := l.prog) (w := w) (base := base) T hP (s := s) (H := H) (a := a) (Q := Q) e0
  rw [hT] at z
  exact z bd0 q
end Bk
open PySem PySem.W PyProof.Rows
theorem PySem.Challenge.cw_bendkinds_k46_points_refused_holds : PySem.Challenge.rw_bendkinds_k46_points_refused.Holds := by
  w_on; o_law; k_head; (case hw => w_witness2)
  k_fill
  refine Bk.law_end (l := PySem.Challenge.rw_bendkinds_k46_points_refused) (x := "_law_script") (m := Bk.r_law) rfl rfl (fun w h Y => PySem.W.kIn_of Y) ?F Bk.law_true
  case F =>
    intro w mg fa h KX G hmg
    refine' Bk.all_mk KX G hmg ?aC_Rule ?pg_Rule ?hd_Rule ?po_Rule ?sa_Rule ?na_Rule_0 ?na_Rule_1 ?na_Rule_2 ?na_Rule_3 ?a_is_sequence ?l_is_sequence ?c_is_sequence ?k_is_sequence ?a_is_less ?l_is_less ?c_is_less ?k_is_less ?a_is_integer ?l_is_integer ?c_is_integer ?k_is_integer ?a_divisor ?l_divisor ?c_divisor ?k_divisor ?a_is_pair ?l_is_pair ?c_is_pair ?k_is_pair ?a_is_value ?l_is_value ?c_is_value ?k_is_value ?a_value_of ?l_value_of ?c_value_of ?k_value_of ?a_is_between ?l_is_between ?c_is_between ?k_is_between ?a_is_share ?l_is_share ?c_is_share ?k_is_share ?a_is_weight ?l_is_weight ?c_is_weight ?k_is_weight ?a_ascending ?l_ascending ?c_ascending ?k_ascending ?a_lowest ?l_lowest ?c_lowest ?k_lowest ?a_added ?l_added ?c_added ?k_added ?a_summed ?l_summed ?c_summed ?k_summed ?a_least_shares ?l_least_shares ?c_least_shares ?k_least_shares ?a_least_weights ?l_least_weights ?c_least_weights ?k_least_weights ?a_need_stretch ?l_need_stretch ?c_need_stretch ?k_need_stretch ?t_Rule_init ?td_Rule_init ?v_Rule_init ?a_Rule_init ?l_Rule_init ?c_Rule_init ?k_Rule_init ?i_Rule_init ?mk_Rule ?kc_Rule ?a_w_choose ?l_w_choose ?c_w_choose ?k_w_choose ?a_w_one_of ?l_w_one_of ?c_w_one_of ?k_w_one_of ?a_w_anything ?l_w_anything ?c_w_anything ?k_w_anything ?a_w_less ?l_w_less ?c_w_less ?k_w_less ?a_w_divisor ?l_w_divisor ?c_w_divisor ?k_w_divisor ?a_w_pair ?l_w_pair ?c_w_pair ?k_w_pair ?a_w_due ?l_w_due ?c_w_due ?k_w_due ?a_area ?l_area ?c_area ?k_area ?a_need_points ?l_need_points ?c_need_points ?k_need_points ?a_less_by ?l_less_by ?c_less_by ?k_less_by ?a_multiplied ?l_multiplied ?c_multiplied ?k_multiplied ?a_quotient ?l_quotient ?c_quotient ?k_quotient ?a_powers_of ?l_powers_of ?c_powers_of ?k_powers_of ?a_area_powers ?l_area_powers ?c_area_powers ?k_area_powers ?a_value_at ?l_value_at ?c_value_at ?k_value_at ?a_told ?l_told ?c_told ?k_told ?a_best ?l_best ?c_best ?k_best ?a_w_heard ?l_w_heard ?c_w_heard ?k_w_heard ?a_w_lowest ?l_w_lowest ?c_w_lowest ?k_w_lowest ?a_w_minus ?l_w_minus ?c_w_minus ?k_w_minus ?a_w_plus ?l_w_plus ?c_w_plus ?k_w_plus ?a_w_times ?l_w_times ?c_w_times ?k_w_times ?a_w_point ?l_w_point ?c_w_point ?k_w_point ?a_w_rising ?l_w_rising ?c_w_rising ?k_w_rising ?a_w_points ?l_w_points ?c_w_points ?k_w_points ?a_w_seed ?l_w_seed ?c_w_seed ?k_w_seed ?a_w_fraction ?l_w_fraction ?c_w_fraction ?k_w_fraction ?a_w_stretch ?l_w_stretch ?c_w_stretch ?k_w_stretch ?a_law ?l_law ?c_law ?k_law ?is1_Rule ?is2_Rule ?is3_Rule ?is4_Rule ?is5_Rule ?ut0_Rule ?ut1_Rule ?ut2_Rule ?ut3_Rule ?ut4_Rule ?a_NOUGHT ?l_NOUGHT ?v_NOUGHT ?a_ONE ?l_ONE ?v_ONE ?z_abs ?z_all ?z_bool ?z_enumerate ?z_int ?z_isinstance ?z_len ?z_list ?z_max ?z_min ?z_range ?z_repr ?z_sorted ?z_tuple ?z_zip ?aC_X0 ?x_X0 ?rv_X0 ?iC_X0 ?tC_X0 ?kC_X0 ?eC_X0 ?va_X0 ?ty_X0 ?sp_X0 ?mr_X0 ?sa_X0 ?na_X0 ?l_X0 ?c_X0 ?ld_X0 ?vs2_X0 ?lc_X0 ?hg_X0 ?hk_X0 ?hd_X0 ?ha_X0 ?hm_X0 ?hPf_X0 ?aC_X2 ?x_X2 ?rv_X2 ?iC_X2 ?tC_X2 ?kC_X2 ?eC_X2 ?va_X2 ?ty_X2 ?sp_X2 ?mr_X2 ?sa_X2 ?na_X2 ?l_X2 ?c_X2 ?ld_X2 ?vs2_X2 ?lc_X2 ?hg_X2 ?hk_X2 ?hd_X2 ?ha_X2 ?hm_X2 ?hPf_X2 ?ta_X ?zs_X ?hn_X ?ht_X ?hPt_X ?aB_BendError ?ki_2_BendError ?ki_2_InvalidRule ?xs_0_0 ?xs_0_2 ?xs_2_0 ?xs_2_2
    (case aC_Rule => k_is)
    (case pg_Rule => k_is)
    (case hd_Rule => k_is)
    (case po_Rule => k_is)
    (case sa_Rule => k_is)
    (case na_Rule_0 => k_is)
    (case na_Rule_1 => k_is)
    (case na_Rule_2 => k_is)
    (case na_Rule_3 => k_is)
    (case a_is_sequence => k_is)
    (case l_is_sequence => k_is)
    (case c_is_sequence => k_is)
    (case k_is_sequence => k_is)
    (case a_is_less => k_is)
    (case l_is_less => k_is)
    (case c_is_less => k_is)
    (case k_is_less => k_is)
    (case a_is_integer => k_is)
    (case l_is_integer => k_is)
    (case c_is_integer => k_is)
    (case k_is_integer => k_is)
    (case a_divisor => k_is)
    (case l_divisor => k_is)
    (case c_divisor => k_is)
    (case k_divisor => k_is)
    (case a_is_pair => k_is)
    (case l_is_pair => k_is)
    (case c_is_pair => k_is)
    (case k_is_pair => k_is)
    (case a_is_value => k_is)
    (case l_is_value => k_is)
    (case c_is_value => k_is)
    (case k_is_value => k_is)
    (case a_value_of => k_is)
    (case l_value_of => k_is)
    (case c_value_of => k_is)
    (case k_value_of => k_is)
    (case a_is_between => k_is)
    (case l_is_between => k_is)
    (case c_is_between => k_is)
    (case k_is_between => k_is)
    (case a_is_share => k_is)
    (case l_is_share => k_is)
    (case c_is_share => k_is)
    (case k_is_share => k_is)
    (case a_is_weight => k_is)
    (case l_is_weight => k_is)
    (case c_is_weight => k_is)
    (case k_is_weight => k_is)
    (case a_ascending => k_is)
    (case l_ascending => k_is)
    (case c_ascending => k_is)
    (case k_ascending => k_is)
    (case a_lowest => k_is)
    (case l_lowest => k_is)
    (case c_lowest => k_is)
    (case k_lowest => k_is)
    (case a_added => k_is)
    (case l_added => k_is)
    (case c_added => k_is)
    (case k_added => k_is)
    (case a_summed => k_is)
    (case l_summed => k_is)
    (case c_summed => k_is)
    (case k_summed => k_is)
    (case a_least_shares => k_is)
    (case l_least_shares => k_is)
    (case c_least_shares => k_is)
    (case k_least_shares => k_is)
    (case a_least_weights => k_is)
    (case l_least_weights => k_is)
    (case c_least_weights => k_is)
    (case k_least_weights => k_is)
    (case a_need_stretch => k_is)
    (case l_need_stretch => k_is)
    (case c_need_stretch => k_is)
    (case k_need_stretch => k_is)
    (case a_Rule_init => k_is)
    (case l_Rule_init => k_is)
    (case c_Rule_init => k_is)
    (case k_Rule_init => k_is)
    (case i_Rule_init => k_is)
    (case mk_Rule => k_is)
    (case kc_Rule => k_is)
    (case a_w_choose => k_is)
    (case l_w_choose => k_is)
    (case c_w_choose => k_is)
    (case k_w_choose => k_is)
    (case a_w_one_of => k_is)
    (case l_w_one_of => k_is)
    (case c_w_one_of => k_is)
    (case k_w_one_of => k_is)
    (case a_w_anything => k_is)
    (case l_w_anything => k_is)
    (case c_w_anything => k_is)
    (case k_w_anything => k_is)
    (case a_w_less => k_is)
    (case l_w_less => k_is)
    (case c_w_less => k_is)
    (case k_w_less => k_is)
    (case a_w_divisor => k_is)
    (case l_w_divisor => k_is)
    (case c_w_divisor => k_is)
    (case k_w_divisor => k_is)
    (case a_w_pair => k_is)
    (case l_w_pair => k_is)
    (case c_w_pair => k_is)
    (case k_w_pair => k_is)
    (case a_w_due => k_is)
    (case l_w_due => k_is)
    (case c_w_due => k_is)
    (case k_w_due => k_is)
    (case a_area => k_is)
    (case l_area => k_is)
    (case c_area => k_is)
    (case k_area => k_is)
    (case a_need_points => k_is)
    (case l_need_points => k_is)
    (case c_need_points => k_is)
    (case k_need_points => k_is)
    (case a_less_by => k_is)
    (case l_less_by => k_is)
    (case c_less_by => k_is)
    (case k_less_by => k_is)
    (case a_multiplied => k_is)
    (case l_multiplied => k_is)
    (case c_multiplied => k_is)
    (case k_multiplied => k_is)
    (case a_quotient => k_is)
    (case l_quotient => k_is)
    (case c_quotient => k_is)
    (case k_quotient => k_is)
    (case a_powers_of => k_is)
    (case l_powers_of => k_is)
    (case c_powers_of => k_is)
    (case k_powers_of => k_is)
    (case a_area_powers => k_is)
    (case l_area_powers => k_is)
    (case c_area_powers => k_is)
    (case k_area_powers => k_is)
    (case a_value_at => k_is)
    (case l_value_at => k_is)
    (case c_value_at => k_is)
    (case k_value_at => k_is)
    (case a_told => k_is)
    (case l_told => k_is)
    (case c_told => k_is)
    (case k_told => k_is)
    (case a_best => k_is)
    (case l_best => k_is)
    (case c_best => k_is)
    (case k_best => k_is)
    (case a_w_heard => k_is)
    (case l_w_heard => k_is)
    (case c_w_heard => k_is)
    (case k_w_heard => k_is)
    (case a_w_lowest => k_is)
    (case l_w_lowest => k_is)
    (case c_w_lowest => k_is)
    (case k_w_lowest => k_is)
    (case a_w_minus => k_is)
    (case l_w_minus => k_is)
    (case c_w_minus => k_is)
    (case k_w_minus => k_is)
    (case a_w_plus => k_is)
    (case l_w_plus => k_is)
    (case c_w_plus => k_is)
    (case k_w_plus => k_is)
    (case a_w_times => k_is)
    (case l_w_times => k_is)
    (case c_w_times => k_is)
    (case k_w_times => k_is)
    (case a_w_point => k_is)
    (case l_w_point => k_is)
    (case c_w_point => k_is)
    (case k_w_point => k_is)
    (case a_w_rising => k_is)
    (case l_w_rising => k_is)
    (case c_w_rising => k_is)
    (case k_w_rising => k_is)
    (case a_w_points => k_is)
    (case l_w_points => k_is)
    (case c_w_points => k_is)
    (case k_w_points => k_is)
    (case a_w_seed => k_is)
    (case l_w_seed => k_is)
    (case c_w_seed => k_is)
    (case k_w_seed => k_is)
    (case a_w_fraction => k_is)
    (case l_w_fraction => k_is)
    (case c_w_fraction => k_is)
    (case k_w_fraction => k_is)
    (case a_w_stretch => k_is)
    (case l_w_stretch => k_is)
    (case c_w_stretch => k_is)
    (case k_w_stretch => k_is)
    (case a_law => k_is)
    (case l_law => k_is)
    (case c_law => k_is)
    (case k_law => k_is)
    (case is1_Rule => k_is)
    (case is2_Rule => k_is)
    (case is3_Rule => k_is)
    (case is4_Rule => k_is)
    (case is5_Rule => kit_is)
    (case ut0_Rule => kit_is)
    (case ut1_Rule => kit_is)
    (case ut2_Rule => kit_is)
    (case ut3_Rule => kit_is)
    (case ut4_Rule => kit_is)
    (case a_NOUGHT => k_is)
    (case l_NOUGHT => k_is)
    (case a_ONE => k_is)
    (case l_ONE => k_is)
    (case z_abs => k_is)
    (case z_all => k_is)
    (case z_bool => k_is)
    (case z_enumerate => k_is)
    (case z_int => k_is)
    (case z_isinstance => k_is)
    (case z_len => k_is)
    (case z_list => k_is)
    (case z_max => k_is)
    (case z_min => k_is)
    (case z_range => k_is)
    (case z_repr => k_is)
    (case z_sorted => k_is)
    (case z_tuple => k_is)
    (case z_zip => k_is)
    (case aC_X0 => k_is)
    (case x_X0 => k_is)
    (case rv_X0 => first | rfl | decide +kernel)
    (case iC_X0 => k_is)
    (case tC_X0 => k_is)
    (case kC_X0 => k_is)
    (case eC_X0 => k_is)
    (case va_X0 => k_is)
    (case ty_X0 => k_is)
    (case sp_X0 => ks_is)
    (case mr_X0 => k_is)
    (case sa_X0 => k_is)
    (case na_X0 => k_is)
    (case l_X0 => k_is)
    (case c_X0 => k_is)
    (case ld_X0 => k_is)
    (case vs2_X0 => rfl)
    (case lc_X0 => k_is)
    (case hg_X0 => k_is)
    (case hk_X0 => k_is)
    (case hd_X0 => k_is)
    (case ha_X0 => k_is)
    (case hm_X0 => k_is)
    (case hPf_X0 => first | rfl | decide +kernel)
    (case aC_X2 => k_is)
    (case x_X2 => k_is)
    (case rv_X2 => first | rfl | decide +kernel)
    (case iC_X2 => k_is)
    (case tC_X2 => k_is)
    (case kC_X2 => k_is)
    (case eC_X2 => k_is)
    (case va_X2 => k_is)
    (case ty_X2 => k_is)
    (case sp_X2 => ks_is)
    (case mr_X2 => k_is)
    (case sa_X2 => k_is)
    (case na_X2 => k_is)
    (case l_X2 => k_is)
    (case c_X2 => k_is)
    (case ld_X2 => k_is)
    (case vs2_X2 => rfl)
    (case lc_X2 => k_is)
    (case hg_X2 => k_is)
    (case hk_X2 => k_is)
    (case hd_X2 => k_is)
    (case ha_X2 => k_is)
    (case hm_X2 => k_is)
    (case hPf_X2 => first | rfl | decide +kernel)
    (case ta_X => k_is)
    (case zs_X => k_is)
    (case hn_X => k_is)
    (case ht_X => k_is)
    (case hPt_X => first | rfl | decide +kernel)
    (case aB_BendError => k_is)
    (case ki_2_BendError => kit_is)
    (case ki_2_InvalidRule => kit_is)
    (case xs_0_0 => k_is)
    (case xs_0_2 => k_is)
    (case xs_2_0 => k_is)
    (case xs_2_2 => k_is)
    (case t_Rule_init => k_is)
    (case td_Rule_init => rfl)
    (case v_Rule_init => exact ⟨[.ref _, .ref _], (.cons rfl (.cons rfl .nil)), fun _ => (.cons (.tup (.inr ⟨_, #[], _, (by k_is), rfl, rfl, by decide, .nil⟩) .nil) (.cons (.tup (.inr ⟨_, #[], _, (by k_is), rfl, rfl, by decide, .nil⟩) .nil) .nil))⟩)
    (case v_NOUGHT => exact ⟨by decide, [.int (0), .int (1)], .cons ⟨_, rfl⟩ (.cons ⟨_, rfl⟩ (.nil)), fun _ => .cons (.int _) (.cons (.int _) (.nil))⟩)
    (case v_ONE => exact ⟨by decide, [.int (1), .int (1)], .cons ⟨_, rfl⟩ (.cons ⟨_, rfl⟩ (.nil)), fun _ => .cons (.int _) (.cons (.int _) (.nil))⟩)
