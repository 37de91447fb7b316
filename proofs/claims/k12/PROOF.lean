import PyProof.Rows.All
import KE.RegKIsAll
import KE.OsRunLaw
import Wide.All
import OpenK.AllK
import Wide.FinOn
import HandS.ForMost
import HandS.IsInst
import HandS.Wide
import HandS.Flow
import HandS.Style
import HandS.RaiseMore
import KE.GoesEnum
import HandS.Codes
import KE.KOpsOwn
import KE.KCallOwn
import KE.KFmtOwn
import HandS.SlotsOwn
import HandS.TupAny
import HandS.Star
import HandS.FStr
import HandS.Text
import HandS.Comp
import HandS.Replace
import HandS.SortRule
import HandS.SortInts
import HandS.Defaults
import HandS.MakeKw
import HandS.Strs
import HandS.SetFor
import HandS.TupMul
import HandS.Deep
import KE.KDictZip
import KE.KTurns
import HandS.Conv
import HandS.Property
import KE.KDictList
import HandS.Dict
import HandS.MakeKwOnly
import HandS.ClsMeth
import HandS.ReplaceLit
import HandS.ReplaceDef
import HandS.NoneIn
import HandS.Lambda
import HandS.EndOwn
import KE.KWithOwn
import PySem.Challenge.RW_bendkinds_k12_rules_by_names
set_option Elab.async false
set_option linter.all false
set_option maxRecDepth 100000
set_option maxHeartbeats 4000000
namespace Bk
open PySem PySem.W PyProof.Rows
theorem split3 {α β γ δ : Type} {o : Option α} {f : α → β} {g : α → γ} {h : α → δ} {a : β} {b : γ} {c : δ} (A : o.map f = some a) (B : o.map g = some b) (C : o.map h = some c) : o.map (fun x => (f x, g x, h x)) = some (a, b, c) := by
  cases o with
  | none => cases A
  | some x =>
    have A' : f x = a := Option.some.inj A
    have B' : g x = b := Option.some.inj B
    have C' : h x = c := Option.some.inj C
    subst A' B' C'
    rfl
theorem hdT {o : Option SharedT} {q : Program} {loose mods : List PySem.Str} {Xt : Shared → Bool}
    (h0 : o.map (fun s => PySem.W.Fast.tw5160383126252970620 (PySem.W.R.mapR (fun x => PySem.DefRec.name x) (PySem.W.Fast.tw3399658132070893891 q)) (PySem.W.Fast.tw5991557255702980513 q) [] { heap := s.abs.heap, drawn := s.abs.drawn, toks := s.abs.toks, os := s.abs.os }) = some (expectedOf q))
    (h1 : o.map (fun s => s.abs.heap.bltView) = some (bltViewBooted))
    (h2 : o.map (fun s => (PySem.W.Fast.tw10880121769531294198 s.abs.heap (PySem.W.Fast.tw821141287760084731 q loose) (PySem.W.R.mapR (fun x => PySem.DefRec.name x) (PySem.W.Fast.tw3399658132070893891 q)) (PySem.W.R.mapR (fun x => Prod.fst x) (PySem.W.Fast.tw7409074990110511671 q)) (PySem.W.R.mapR (fun x => PySem.ClsRec.name x) (PySem.W.Fast.tw13664370479719496447 q (PySem.W.Fast.tw821141287760084731 q loose))) && PySem.W.Fast.tw14722251495701143533 s.abs.heap mods && s.abs.heap.isNs mainGlobals && s.abs.heap.isNs builtinsNs && PySem.W.Fast.tw10994771534591457954 q s.abs.heap && Xt s.abs && if true = true then s.abs.gens.size == 0 else !leftWithCleanup s.abs.gens)) = some (true))
    (h3 : o.map (fun s => PySem.W.Fast.tw479339242167458305 q s.abs) = some (true))
    (h4 : o.map (fun s => PySem.W.Fast.tw16090120013241838585 q (PySem.W.Fast.tw3247288618530077131 q) s.abs) = some (pinGoodD (drecsOf q)))
    (h5 : o.map (fun s => PySem.W.Fast.tw2386780881361962483 q (PySem.W.Fast.tw821141287760084731 q loose) s.abs) = some (plainGoodE q (looseW q loose)))
    (h6 : o.map (fun s => PySem.W.Fast.tw11698064438423848299 q loose s.abs) = some (plainGoodD q loose))
    (h7 : o.map (fun s => PySem.W.Fast.tw7317090234206586261 q s.abs) = some (wideGood q))
    (h8 : o.map (fun s => PySem.W.Fast.tw7369524293546568484 q loose s.abs) = some (clsGoodW q loose))
    : o.map (fun s => HeadRun.seenQ q loose mods Xt s.abs) = some (openGood q loose) := by
  cases o with
  | none => cases h0
  | some x => exact congrArg some (Prod.ext (Option.some.inj h0) (Prod.ext (Option.some.inj h1) (Prod.ext (Option.some.inj h2) (Prod.ext (Option.some.inj h3) (Prod.ext (Option.some.inj h4) (Prod.ext (Option.some.inj h5) (Prod.ext (Option.some.inj h6) (Prod.ext (Option.some.inj h7) (Option.some.inj h8)))))))))
theorem viewT {o : Option SharedT} {p q : Program} {loose mods : List PySem.Str} {R : Shared → Bool} (e : p = q) (h : o.map (fun s => HeadRun.seenQ q loose mods (fun s => xlAt q [] s && R s) s.abs) = some (openGood q loose)) :
    o.map (fun s => HeadRun.seenQ p loose mods (fun s => xlAt p [] s && R s) s.abs) = some (openGood p loose) := e ▸ h
noncomputable def kview : Program := view PySem.Challenge.rw_bendkinds_k12_rules_by_names.row.prog [0, 2, 3, 4, 5, 6, 7, 8, 10, 11, 12, 13, 14, 15, 16, 17, 18, 19, 20, 21, 22, 23, 24, 25, 26, 27, 28, 29, 30, 31, 33, 34, 35, 36, 37, 38, 39, 40, 41, 42, 44, 45, 46, 47, 49, 51, 53, 54, 55, 56, 57, 58, 59, 60, 61, 62, 63, 64, 65, 66, 67, 68, 69, 70, 71, 73, 74, 75, 76, 77, 78, 79, 81, 82, 84, 85, 86, 88, 89, 90, 91, 92, 93, 95, 96, 98, 99, 100, 101, 102, 104, 105, 106]
theorem map_l {o : Option SharedT} {α β : Type} {f : SharedT → α} {g : SharedT → β} {a : α} {b : β} (h : o.map (fun s => (f s, g s)) = some (a, b)) : o.map f = some a := by
  cases o with
  | none => cases h
  | some x => exact congrArg some (Prod.mk.inj (Option.some.inj h)).1
theorem map_r {o : Option SharedT} {α β : Type} {f : SharedT → α} {g : SharedT → β} {a : α} {b : β} (h : o.map (fun s => (f s, g s)) = some (a, b)) : o.map g = some b := by
  cases o with
  | none => cases h
  | some x => exact congrArg some (Prod.mk.inj (Option.some.inj h)).2
theorem hdM (w : World) (os : OsState) : (HeadRun.endF (HeadRun.stepQ (HeadRun.denQ HeadRun.tabQ) PySem.Challenge.rw_bendkinds_k12_rules_by_names.row.prog w) 12456 PySem.Challenge.rw_bendkinds_k12_rules_by_names.row.prog w os).map (fun s => (HeadRun.looksF PySem.Challenge.rw_bendkinds_k12_rules_by_names.row.prog (boot_heap w.params) s.abs, s.abs.heap.bltView, PySem.W.Fast.tw11698064438423848299 kview [Str.ofString "Rule", Str.ofString "value_at_rules", Str.ofString "plus", Str.ofString "value_at_polys", Str.ofString "Live"] s.abs, PySem.W.Fast.tw7369524293546568484 kview [Str.ofString "Rule", Str.ofString "value_at_rules", Str.ofString "plus", Str.ofString "value_at_polys", Str.ofString "Live"] s.abs)) = some (true, (bltViewBooted), (plainGoodD kview [Str.ofString "Rule", Str.ofString "value_at_rules", Str.ofString "plus", Str.ofString "value_at_polys", Str.ofString "Live"]), (clsGoodW kview [Str.ofString "Rule", Str.ofString "value_at_rules", Str.ofString "plus", Str.ofString "value_at_polys", Str.ofString "Live"])) := by kernel_rfl
theorem hdA (w : World) (os : OsState) : (HeadRun.endF (HeadRun.stepQ (HeadRun.denQ HeadRun.tabQ) PySem.Challenge.rw_bendkinds_k12_rules_by_names.row.prog w) 12456 PySem.Challenge.rw_bendkinds_k12_rules_by_names.row.prog w os).map (fun s => HeadRun.looksF PySem.Challenge.rw_bendkinds_k12_rules_by_names.row.prog (boot_heap w.params) s.abs) = some true := map_l (hdM w os)
theorem hd0 (w : World) (os : OsState) : (HeadRun.endF (HeadRun.stepQ (HeadRun.denQ HeadRun.tabQ) PySem.Challenge.rw_bendkinds_k12_rules_by_names.row.prog w) 12456 PySem.Challenge.rw_bendkinds_k12_rules_by_names.row.prog w os).map (fun s => PySem.W.Fast.tw5160383126252970620 (PySem.W.R.mapR (fun x => PySem.DefRec.name x) (PySem.W.Fast.tw3399658132070893891 kview)) (PySem.W.Fast.tw5991557255702980513 kview) [] { heap := s.abs.heap, drawn := s.abs.drawn, toks := s.abs.toks, os := s.abs.os }) = some (expectedOf kview) := by kernel_rfl
theorem hd1 (w : World) (os : OsState) : (HeadRun.endF (HeadRun.stepQ (HeadRun.denQ HeadRun.tabQ) PySem.Challenge.rw_bendkinds_k12_rules_by_names.row.prog w) 12456 PySem.Challenge.rw_bendkinds_k12_rules_by_names.row.prog w os).map (fun s => s.abs.heap.bltView) = some (bltViewBooted) := map_l (map_r (hdM w os))
theorem hd2 (w : World) (os : OsState) : (HeadRun.endF (HeadRun.stepQ (HeadRun.denQ HeadRun.tabQ) PySem.Challenge.rw_bendkinds_k12_rules_by_names.row.prog w) 12456 PySem.Challenge.rw_bendkinds_k12_rules_by_names.row.prog w os).map (fun s => (PySem.W.Fast.tw10880121769531294198 s.abs.heap (PySem.W.Fast.tw821141287760084731 kview [Str.ofString "Rule", Str.ofString "value_at_rules", Str.ofString "plus", Str.ofString "value_at_polys", Str.ofString "Live"]) (PySem.W.R.mapR (fun x => PySem.DefRec.name x) (PySem.W.Fast.tw3399658132070893891 kview)) (PySem.W.R.mapR (fun x => Prod.fst x) (PySem.W.Fast.tw7409074990110511671 kview)) (PySem.W.R.mapR (fun x => PySem.ClsRec.name x) (PySem.W.Fast.tw13664370479719496447 kview (PySem.W.Fast.tw821141287760084731 kview [Str.ofString "Rule", Str.ofString "value_at_rules", Str.ofString "plus", Str.ofString "value_at_polys", Str.ofString "Live"]))) && PySem.W.Fast.tw14722251495701143533 s.abs.heap (importedModules PySem.Challenge.rw_bendkinds_k12_rules_by_names.row.prog.main.body) && s.abs.heap.isNs mainGlobals && s.abs.heap.isNs builtinsNs && PySem.W.Fast.tw10994771534591457954 kview s.abs.heap && (xlAt kview [] s.abs && recOk PySem.Challenge.rw_bendkinds_k12_rules_by_names.row.records s.abs) && if true = true then s.abs.gens.size == 0 else !leftWithCleanup s.abs.gens)) = some (true) := by kernel_rfl
theorem hd3 (w : World) (os : OsState) : (HeadRun.endF (HeadRun.stepQ (HeadRun.denQ HeadRun.tabQ) PySem.Challenge.rw_bendkinds_k12_rules_by_names.row.prog w) 12456 PySem.Challenge.rw_bendkinds_k12_rules_by_names.row.prog w os).map (fun s => PySem.W.Fast.tw479339242167458305 kview s.abs) = some (true) := by kernel_rfl
theorem hd4 (w : World) (os : OsState) : (HeadRun.endF (HeadRun.stepQ (HeadRun.denQ HeadRun.tabQ) PySem.Challenge.rw_bendkinds_k12_rules_by_names.row.prog w) 12456 PySem.Challenge.rw_bendkinds_k12_rules_by_names.row.prog w os).map (fun s => PySem.W.Fast.tw16090120013241838585 kview (PySem.W.Fast.tw3247288618530077131 kview) s.abs) = some (pinGoodD (drecsOf kview)) := by kernel_rfl
noncomputable def pc0 : ClsRec := (PySem.W.Fast.tw17968749316262605751 kview (Str.ofString "Desk")).getD ⟨Str.ofString "", none, [], [], 0, []⟩
noncomputable def pc1 : ClsRec := (PySem.W.Fast.tw17968749316262605751 kview (Str.ofString "Block")).getD ⟨Str.ofString "", none, [], [], 0, []⟩
theorem hd5 {o : Option SharedT} {p : Program} {loose : List PySem.Str} {r : List (Option PlainShape)} {L : List ClsRec} (h : o.map (fun s => PySem.W.R.mapR (fun c => PySem.W.Fast.tw15717526521509864196 s.abs.heap (PySem.W.Fast.tw12515865711710729776 c)) L) = some (L.map (fun c => some c.withCmp.plainShape))) (z1 : PySem.W.Fast.tw210736558901404530 p loose = L) (z2 : r = L.map (fun c => some c.withCmp.plainShape)) : o.map (fun s => PySem.W.Fast.tw2386780881361962483 p loose s.abs) = some r := by
  subst z1 z2
  exact h
theorem hz1 : PySem.W.Fast.tw210736558901404530 kview (PySem.W.Fast.tw821141287760084731 kview [Str.ofString "Rule", Str.ofString "value_at_rules", Str.ofString "plus", Str.ofString "value_at_polys", Str.ofString "Live"]) = [pc0, pc1] := by kernel_rfl
theorem hz2 : plainGoodE kview (looseW kview [Str.ofString "Rule", Str.ofString "value_at_rules", Str.ofString "plus", Str.ofString "value_at_polys", Str.ofString "Live"]) = List.map (fun c => some c.withCmp.plainShape) [pc0, pc1] := by kernel_rfl
theorem hz3 (w : World) (os : OsState) : (HeadRun.endF (HeadRun.stepQ (HeadRun.denQ HeadRun.tabQ) PySem.Challenge.rw_bendkinds_k12_rules_by_names.row.prog w) 12456 PySem.Challenge.rw_bendkinds_k12_rules_by_names.row.prog w os).map (fun s => PySem.W.R.mapR (fun c => PySem.W.Fast.tw15717526521509864196 s.abs.heap (PySem.W.Fast.tw12515865711710729776 c)) [pc0, pc1]) = some (List.map (fun c => some c.withCmp.plainShape) [pc0, pc1]) := by kernel_rfl
theorem hd6 (w : World) (os : OsState) : (HeadRun.endF (HeadRun.stepQ (HeadRun.denQ HeadRun.tabQ) PySem.Challenge.rw_bendkinds_k12_rules_by_names.row.prog w) 12456 PySem.Challenge.rw_bendkinds_k12_rules_by_names.row.prog w os).map (fun s => PySem.W.Fast.tw11698064438423848299 kview [Str.ofString "Rule", Str.ofString "value_at_rules", Str.ofString "plus", Str.ofString "value_at_polys", Str.ofString "Live"] s.abs) = some (plainGoodD kview [Str.ofString "Rule", Str.ofString "value_at_rules", Str.ofString "plus", Str.ofString "value_at_polys", Str.ofString "Live"]) := map_l (map_r (map_r (hdM w os)))
theorem hd7 (w : World) (os : OsState) : (HeadRun.endF (HeadRun.stepQ (HeadRun.denQ HeadRun.tabQ) PySem.Challenge.rw_bendkinds_k12_rules_by_names.row.prog w) 12456 PySem.Challenge.rw_bendkinds_k12_rules_by_names.row.prog w os).map (fun s => PySem.W.Fast.tw7317090234206586261 kview s.abs) = some (wideGood kview) := by kernel_rfl
theorem hd8 (w : World) (os : OsState) : (HeadRun.endF (HeadRun.stepQ (HeadRun.denQ HeadRun.tabQ) PySem.Challenge.rw_bendkinds_k12_rules_by_names.row.prog w) 12456 PySem.Challenge.rw_bendkinds_k12_rules_by_names.row.prog w os).map (fun s => PySem.W.Fast.tw7369524293546568484 kview [Str.ofString "Rule", Str.ofString "value_at_rules", Str.ofString "plus", Str.ofString "value_at_polys", Str.ofString "Live"] s.abs) = some (clsGoodW kview [Str.ofString "Rule", Str.ofString "value_at_rules", Str.ofString "plus", Str.ofString "value_at_polys", Str.ofString "Live"]) := map_r (map_r (map_r (hdM w os)))
theorem hdC (w : World) (os : OsState) : (HeadRun.endF (HeadRun.stepQ (HeadRun.denQ HeadRun.tabQ) PySem.Challenge.rw_bendkinds_k12_rules_by_names.row.prog w) 12456 PySem.Challenge.rw_bendkinds_k12_rules_by_names.row.prog w os).map (fun s => HeadRun.seenQ kview [Str.ofString "Rule", Str.ofString "value_at_rules", Str.ofString "plus", Str.ofString "value_at_polys", Str.ofString "Live"] (importedModules PySem.Challenge.rw_bendkinds_k12_rules_by_names.row.prog.main.body) (fun s => xlAt kview [] s && recOk PySem.Challenge.rw_bendkinds_k12_rules_by_names.row.records s) s.abs) = some (openGood kview [Str.ofString "Rule", Str.ofString "value_at_rules", Str.ofString "plus", Str.ofString "value_at_polys", Str.ofString "Live"]) :=
  hdT (q := kview) (loose := [Str.ofString "Rule", Str.ofString "value_at_rules", Str.ofString "plus", Str.ofString "value_at_polys", Str.ofString "Live"]) (mods := importedModules PySem.Challenge.rw_bendkinds_k12_rules_by_names.row.prog.main.body) (Xt := fun s => xlAt kview [] s && recOk PySem.Challenge.rw_bendkinds_k12_rules_by_names.row.records s) (hd0 w os) (hd1 w os) (hd2 w os) (hd3 w os) (hd4 w os) (hd5 (hz3 w os) hz1 hz2) (hd6 w os) (hd7 w os) (hd8 w os)
end Bk
namespace Bk
open PySem L2
inductive D where
  | non | bl (b : Bool) | int (i : Int) | str (x : PySem.Str)
  | lst (xs : List D) | frz (xs : List D) | tup (xs : List D) | obj (c : Nat) (xs : List D) | ty (n : String) | cl (c : Nat) | dic (ks : List PySem.Str) (xs : List D)
def cName : Nat → PySem.Str
  | 0 => "Rule" | 1 => "Part" | 2 => "Live" | 3 => "Block" | 4 => "Desk" | _ => "Table"
def cAttrs : Nat → List PySem.Str
  | 0 => ["low", "high", "weights", "shares"]
  | 1 => ["start", "end", "powers", "whole", "least_high", "most_high"]
  | 2 => ["past"] | 3 => ["live", "kept"] | 4 => ["kept"]
  | _ => ["many", "size", "signs", "lines", "base"]
/-- the class of that number stands at C -/
def CAt (K : PySem.W.Frag) (c : Nat) (C : Addr) : Prop := PySem.W.nsIn K mainGlobals (cName c) = some (some (.ref C))
theorem CAt.eq {K : PySem.W.Frag} {c : Nat} {C C' : Addr} (h : CAt K c C) (h' : CAt K c C') : C = C' := by
  unfold CAt at h h'
  rw [h] at h'
  cases h'
  rfl
mutual
inductive DR (K : PySem.W.Frag) (H : Hp) : V → D → Prop
  | non : DR K H .non .non
  | bl (b : Bool) : DR K H (.bl b) (.bl b)
  | int (i : Int) : DR K H (.int i) (.int i)
  | str (x : PySem.Str) : DR K H (.str x) (.str x)
  | lst {a : Addr} {xs : List V} {ds : List D} : H a = some (.lst xs) → DRs K H xs ds → DR K H (.ref a) (.lst ds)
  | frz {a : Addr} {xs : List V} {ds : List D} : SqL K H a xs → DRs K H xs ds → DR K H (.ref a) (.frz ds)
  | tup {a : Addr} {xs : List V} {ds : List D} : SqT K H a xs → DRs K H xs ds → DR K H (.ref a) (.tup ds)
  | obj {a C dx : Addr} {c : Nat} {fs : List (PySem.Str × V)} {vs : List V} {ds : List D} : CAt K c C → H a = some (.ins C dx fs) → fs.map (·.1) = (cAttrs c).take ds.length → fs.map (·.2) = vs → DRs K H vs ds → DR K H (.ref a) (.obj c ds)
  | ty (n : String) : DR K H (.ty n) (.ty n)
  | cl {c : Nat} {C : Addr} : CAt K c C → DR K H (.ref C) (.cl c)
  | dic {a : Addr} {ks : List PySem.Str} {vs : List V} {ds : List D} : Rd H a (.dK ((ks.map Sum.inr).zip vs)) → DRs K H vs ds → ks.length = vs.length → DR K H (.ref a) (.dic ks ds)
inductive DRs (K : PySem.W.Frag) (H : Hp) : List V → List D → Prop
  | nil : DRs K H [] []
  | cons {v : V} {vs : List V} {d : D} {ds : List D} : DR K H v d → DRs K H vs ds → DRs K H (v :: vs) (d :: ds)
end
theorem same_rd {H H' : Hp} (e : Same H H') {a : Addr} {u : HO} (r : Rd H a u) : Rd H' a u := by
  cases r with
  | inl h => exact .inl (e _ _ h)
  | inr h =>
    obtain ⟨o, h⟩ := h
    exact .inr ⟨o, e _ _ h⟩
theorem same_tup {K : PySem.W.Frag} {H H' : Hp} (e : Same H H') {a : Addr} {xs : List V} (h : SqT K H a xs) : SqT K H' a xs := by
  cases h with
  | inl h => exact .inl (same_rd e h)
  | inr h => exact .inr h
theorem same_lst {K : PySem.W.Frag} {H H' : Hp} (e : Same H H') {a : Addr} {xs : List V} (h : SqL K H a xs) : SqL K H' a xs := by
  cases h with
  | inl h => exact .inl (same_rd e h)
  | inr h => exact .inr h
mutual
theorem DR.mono {K : PySem.W.Frag} {H H' : Hp} (e : Same H H') : ∀ {v : V} {d : D}, DR K H v d → DR K H' v d
  | _, _, .non => .non
  | _, _, .bl b => .bl b
  | _, _, .int i => .int i
  | _, _, .str x => .str x
  | _, _, .lst h hs => .lst (e _ _ h) (DRs.mono e hs)
  | _, _, .frz h hs => .frz (same_lst e h) (DRs.mono e hs)
  | _, _, .tup h hs => .tup (same_tup e h) (DRs.mono e hs)
  | _, _, .obj c h h1 h2 hs => .obj c (e _ _ h) h1 h2 (DRs.mono e hs)
  | _, _, .ty n => .ty n
  | _, _, .cl c => .cl c
  | _, _, .dic h hs hl => .dic (same_rd e h) (DRs.mono e hs) hl
theorem DRs.mono {K : PySem.W.Frag} {H H' : Hp} (e : Same H H') : ∀ {vs : List V} {ds : List D}, DRs K H vs ds → DRs K H' vs ds
  | _, _, .nil => .nil
  | _, _, .cons h hs => .cons (DR.mono e h) (DRs.mono e hs)
end
section
variable {K : PySem.W.Frag} {H : Hp}
theorem DRs.len : ∀ {vs : List V} {ds : List D}, DRs K H vs ds → vs.length = ds.length
  | _, _, .nil => rfl
  | _, _, .cons _ hs => congrArg Nat.succ (DRs.len hs)
theorem DRs.at : ∀ {vs : List V} {ds : List D} {i : Nat} {d : D}, DRs K H vs ds → ds[i]? = some d → ∃ v, vs[i]? = some v ∧ DR K H v d
  | _, _, _, _, .nil, e => by simp at e
  | _, _, 0, _, .cons h _, e => by simp at e; subst e; exact ⟨_, rfl, h⟩
  | _, _, i + 1, _, .cons _ hs, e => by
    obtain ⟨v, h1, h2⟩ := DRs.at (i := i) hs (by simpa using e)
    exact ⟨v, by simpa using h1, h2⟩
theorem DRs.ta : ∀ {vs : List V} {ds : List D} {i : Nat} {v : V}, DRs K H vs ds → vs[i]? = some v → ∃ d, ds[i]? = some d ∧ DR K H v d
  | _, _, _, _, .nil, e => by simp at e
  | _, _, 0, _, .cons h _, e => by simp at e; subst e; exact ⟨_, rfl, h⟩
  | _, _, i + 1, _, .cons _ hs, e => by
    obtain ⟨v, h1, h2⟩ := DRs.ta (i := i) hs (by simpa using e)
    exact ⟨v, by simpa using h1, h2⟩
theorem DRs.app : ∀ {vs ws : List V} {ds es : List D}, DRs K H vs ds → DRs K H ws es → DRs K H (vs ++ ws) (ds ++ es)
  | _, _, _, _, .nil, h => h
  | _, _, _, _, .cons a t, h => .cons a (DRs.app t h)
theorem DRs.one {v : V} {d : D} (h : DR K H v d) : DRs K H [v] [d] := .cons h .nil
theorem DRs.drop : ∀ {vs : List V} {ds : List D} (n : Nat), DRs K H vs ds → DRs K H (vs.drop n) (ds.drop n)
  | _, _, 0, h => h
  | _, _, _ + 1, .nil => .nil
  | _, _, n + 1, .cons _ t => DRs.drop n t
theorem DRs.take : ∀ {vs : List V} {ds : List D} (n : Nat), DRs K H vs ds → DRs K H (vs.take n) (ds.take n)
  | _, _, 0, _ => .nil
  | _, _, _ + 1, .nil => .nil
  | _, _, n + 1, .cons a t => .cons a (DRs.take n t)
theorem DRs.set {v : V} {d : D} (h : DR K H v d) : ∀ {vs : List V} {ds : List D} (i : Nat), DRs K H vs ds → DRs K H (vs.set i v) (ds.set i d)
  | _, _, _, .nil => .nil
  | _, _, 0, .cons _ t => .cons h t
  | _, _, i + 1, .cons a t => .cons a (DRs.set h i t)
theorem DRs.rev : ∀ {vs : List V} {ds : List D}, DRs K H vs ds → DRs K H vs.reverse ds.reverse
  | _, _, .nil => .nil
  | _, _, .cons a t => by
    rw [List.reverse_cons, List.reverse_cons]
    exact DRs.app (DRs.rev t) (.cons a .nil)
theorem DRs.rep {vs : List V} {ds : List D} (h : DRs K H vs ds) : ∀ k : Nat, DRs K H (List.replicate k vs).flatten (List.replicate k ds).flatten
  | 0 => .nil
  | k + 1 => by
    rw [List.replicate_succ, List.replicate_succ, List.flatten_cons, List.flatten_cons]
    exact DRs.app h (DRs.rep h k)
theorem DRs.ints : ∀ (ns : List Int), DRs K H (ns.map V.int) (ns.map D.int)
  | [] => .nil
  | n :: ns => .cons (.int n) (DRs.ints ns)
end
/-- what may change: a list, an instance -/
inductive Mob where
  | l (ds : List D) | o (c : Nat) (ds : List D)
def Mob.d : Mob → D
  | .l ds => .lst ds
  | .o c ds => .obj c ds
inductive Ent where
  | un | im (d : D) | ow (m : Mob) | bx (m : Mob)
def Ent.mu : Ent → Option Mob
  | .ow m => some m
  | .bx m => some m
  | _ => none
abbrev Gam := List Ent
inductive R where
  | im (d : D) | ow (m : Mob)
abbrev R.ol (ds : List D) : R := .ow (.l ds)
abbrev Ent.ol (ds : List D) : Ent := .ow (.l ds)
abbrev Ent.bl (ds : List D) : Ent := .bx (.l ds)
def R.d : R → D
  | .im d => d
  | .ow m => m.d
def R.ent : R → Ent
  | .im d => .im d
  | .ow m => .ow m
abbrev M (α : Type) := Gam → Option (α × Gam)
/-- the object at an address is that thing -/
def MobO (K : PySem.W.Frag) (Hs : Hp) : Mob → HO → Prop
  | .l ds, o => ∃ vs, o = .lst vs ∧ DRs K Hs vs ds
  | .o c ds, o => ∃ C dx fs, CAt K c C ∧ o = .ins C dx fs ∧ fs.map (·.1) = (cAttrs c).take ds.length ∧ DRs K Hs (fs.map (·.2)) ds
theorem MobO.mono {K : PySem.W.Frag} {H H' : Hp} (e : Same H H') {m : Mob} {o : HO} (h : MobO K H m o) : MobO K H' m o := by
  cases m with
  | l ds =>
    obtain ⟨vs, h1, h2⟩ := h
    exact ⟨vs, h1, h2.mono e⟩
  | o c ds =>
    obtain ⟨C, dx, fs, h1, h2, h3, h4⟩ := h
    exact ⟨C, dx, fs, h1, h2, h3, h4.mono e⟩
theorem MobO.dr {K : PySem.W.Frag} {H : Hp} {m : Mob} {o : HO} {a : Addr} (h : MobO K H m o) (ha : H a = some o) : DR K H (.ref a) m.d := by
  cases m with
  | l ds =>
    obtain ⟨vs, rfl, h2⟩ := h
    exact .lst ha h2
  | o c ds =>
    obtain ⟨C, dx, fs, h1, rfl, h3, h4⟩ := h
    exact .obj h1 ha h3 rfl h4
structure Rel (K : PySem.W.Frag) (Fz : Hp) (ba : Nat → Addr) (G : Gam) (σ : L2.St) (H Hs : Hp) : Prop where
  sub : Same Hs H
  fz : ∀ a o, Fz a = some o → H a = some o ∧ Hs a = none
  len : σ.length = G.length
  im : ∀ (i : Nat) (d : D), G[i]? = some (.im d) → ∃ v, σ[i]? = some (some v) ∧ DR K Hs v d
  mu : ∀ (i : Nat) (e : Ent) (m : Mob), G[i]? = some e → e.mu = some m → ∃ l o, σ[i]? = some (some (.ref l)) ∧ H l = some o ∧ Hs l = none ∧ Fz l = none ∧ MobO K Hs m o
  dj : ∀ (i j : Nat) (e e' : Ent) (l : Addr), G[i]? = some e → G[j]? = some e' → e.mu ≠ none → e'.mu ≠ none → σ[i]? = some (some (.ref l)) → σ[j]? = some (some (.ref l)) → i = j
  bx : ∀ (i : Nat) (m : Mob), G[i]? = some (.bx m) → σ[i]? = some (some (.ref (ba i)))
/-- more was laid, nothing that stood was touched; what is hidden stays hidden -/
structure Ext (H Hs H' Hs' : Hp) : Prop where
  a : Same H H'
  b : Same Hs Hs'
  c : Same Hs' H'
  n : ∀ x o, H x = some o → Hs x = none → Hs' x = none
theorem Ext.refl {H Hs : Hp} (s : Same Hs H) : Ext H Hs H Hs := ⟨Same.refl _, Same.refl _, s, fun _ _ _ h => h⟩
theorem Ext.trans {H Hs H1 Hs1 H2 Hs2 : Hp} (p : Ext H Hs H1 Hs1) (q : Ext H1 Hs1 H2 Hs2) : Ext H Hs H2 Hs2 :=
  ⟨p.a.trans q.a, p.b.trans q.b, q.c, fun x o h1 h2 => q.n x o (p.a x o h1) (p.n x o h1 h2)⟩
theorem same_new {H : Hp} {p : Addr} {o : HO} (h : H p = none) : Same H (upd H p o) := fun a u e => by
  rw [upd_ne (ne_of_none e h)]
  exact e
theorem none_sub {Hs H : Hp} (s : Same Hs H) {p : Addr} (h : H p = none) : Hs p = none := s.free h
theorem same_upd2 {Hs H : Hp} (s : Same Hs H) {p : Addr} {o : HO} : Same (upd Hs p o) (upd H p o) := fun a u e => by
  by_cases z : a = p
  · subst z
    rw [upd_same] at e ⊢
    exact e
  · rw [upd_ne z] at e ⊢
    exact s a u e
theorem Ext.new {H Hs : Hp} {p : Addr} {o : HO} (s : Same Hs H) (h : H p = none) : Ext H Hs (upd H p o) (upd Hs p o) :=
  ⟨same_new h, same_new (none_sub s h), same_upd2 s, fun x u h1 h2 => by rw [upd_ne (ne_of_none h1 h)]; exact h2⟩
theorem Ext.hid {H Hs : Hp} {p : Addr} {o : HO} (s : Same Hs H) (h : H p = none) : Ext H Hs (upd H p o) Hs :=
  ⟨same_new h, Same.refl _, s.trans (same_new h), fun x u _ h2 => h2⟩
section
variable {K : PySem.W.Frag} {Fz : Hp} {ba : Nat → Addr} {G : Gam} {σ : L2.St} {H Hs H' Hs' : Hp}
theorem Rel.ext (r : Rel K Fz ba G σ H Hs) (e : Ext H Hs H' Hs') : Rel K Fz ba G σ H' Hs' where
  sub := e.c
  fz := fun a o h => let ⟨h1, h2⟩ := r.fz a o h; ⟨e.a a o h1, e.n a o h1 h2⟩
  len := r.len
  im := fun i d h => let ⟨v, h1, h2⟩ := r.im i d h; ⟨v, h1, h2.mono e.b⟩
  mu := fun i en ds h h0 => let ⟨l, vs, h1, h2, h3, h4, h5⟩ := r.mu i en ds h h0; ⟨l, vs, h1, e.a l _ h2, e.n l _ h2 h3, h4, h5.mono e.b⟩
  dj := r.dj
  bx := r.bx
def Res (K : PySem.W.Frag) (Fz : Hp) (G : Gam) (σ : L2.St) (H Hs : Hp) (v : V) : R → Prop
  | .im d => DR K Hs v d
  | .ow m => ∃ p o, v = .ref p ∧ H p = some o ∧ Hs p = none ∧ Fz p = none ∧ MobO K Hs m o ∧ ∀ (i : Nat) (e : Ent), G[i]? = some e → e.mu ≠ none → σ[i]? ≠ some (some (.ref p))
/-- an owned object becomes a shared one -/
theorem Rel.froze (r : Rel K Fz ba G σ H Hs) {p : Addr} {o : HO} (h : H p = some o) (hs : Hs p = none) (hf : Fz p = none) (hn : ∀ (i : Nat) (e : Ent), G[i]? = some e → e.mu ≠ none → σ[i]? ≠ some (some (.ref p))) :
    Rel K Fz ba G σ H (upd Hs p o) ∧ Same Hs (upd Hs p o) := by
  have sm : Same Hs (upd Hs p o) := same_new hs
  refine ⟨⟨fun a u e => ?_, fun a u e => ?_, r.len, fun i d e => ?_, fun i en ds e e0 => ?_, r.dj, r.bx⟩, sm⟩
  · by_cases z : a = p
    · subst z
      rw [upd_same] at e
      rw [h]
      exact e
    · rw [upd_ne z] at e
      exact r.sub a u e
  · obtain ⟨h1, h2⟩ := r.fz a u e
    refine ⟨h1, ?_⟩
    rw [upd_ne (ne_of_none e hf)]
    exact h2
  · obtain ⟨v, h1, h2⟩ := r.im i d e
    exact ⟨v, h1, h2.mono sm⟩
  · obtain ⟨l, vs, h1, h2, h3, h4, h5⟩ := r.mu i en ds e e0
    refine ⟨l, vs, h1, h2, ?_, h4, h5.mono sm⟩
    have z : l ≠ p := by
      intro z
      subst z
      exact hn i en e (by rw [e0]; simp) h1
    rw [upd_ne z]
    exact h3
theorem Rel.fzr (r : Rel K Fz ba G σ H Hs) {v : V} {x : R} (h : Res K Fz G σ H Hs v x) : ∃ Hs', Rel K Fz ba G σ H Hs' ∧ Same Hs Hs' ∧ DR K Hs' v x.d := by
  cases x with
  | im d => exact ⟨Hs, r, Same.refl _, h⟩
  | ow ds =>
    obtain ⟨p, vs, rfl, h1, h2, h3, h4, h5⟩ := h
    obtain ⟨q1, q2⟩ := r.froze h1 h2 h3 h5
    exact ⟨_, q1, q2, (h4.mono q2).dr upd_same⟩
theorem get_set {α : Type} {l : List α} {i j : Nat} {a b : α} (h : (l.set i a)[j]? = some b) : (i = j ∧ b = a ∧ i < l.length) ∨ (i ≠ j ∧ l[j]? = some b) := by
  by_cases z : i = j
  · subst z
    by_cases hi : i < l.length
    · rw [List.getElem?_set_self hi] at h
      cases h
      exact .inl ⟨rfl, rfl, hi⟩
    · rw [List.getElem?_eq_none (by simp; omega)] at h
      cases h
  · rw [List.getElem?_set_ne z] at h
    exact .inr ⟨z, h⟩
/-- a name is stored -/
theorem Rel.set (r : Rel K Fz ba G σ H Hs) {i : Nat} {v : V} {x : R} (h : Res K Fz G σ H Hs v x) : Rel K Fz ba (G.set i x.ent) (σ.set i (some v)) H Hs where
  sub := r.sub
  fz := r.fz
  len := by rw [List.length_set, List.length_set]; exact r.len
  im := fun j d e => by
    rcases get_set e with ⟨rfl, e1, hi⟩ | ⟨z, e1⟩
    · refine ⟨v, by rw [List.getElem?_set_self (by rw [r.len]; exact hi)], ?_⟩
      cases x with
      | im d' => cases e1; exact h
      | ow ds => cases e1
    · obtain ⟨v', h1, h2⟩ := r.im j d e1
      exact ⟨v', by rw [List.getElem?_set_ne z]; exact h1, h2⟩
  mu := fun j en ds e e0 => by
    rcases get_set e with ⟨rfl, e1, hi⟩ | ⟨z, e1⟩
    · cases x with
      | im d' => subst e1; cases e0
      | ow ds' =>
        subst e1
        cases e0
        obtain ⟨p, vs, rfl, h1, h2, h3, h4, _⟩ := h
        exact ⟨p, vs, by rw [List.getElem?_set_self (by rw [r.len]; exact hi)], h1, h2, h3, h4⟩
    · obtain ⟨l, vs, h1, h2⟩ := r.mu j en ds e1 e0
      exact ⟨l, vs, by rw [List.getElem?_set_ne z]; exact h1, h2⟩
  dj := fun j k e e' l h1 h2 m1 m2 s1 s2 => by
    rcases get_set h1 with ⟨z1, e1, hi⟩ | ⟨z1, e1⟩
    · rcases get_set h2 with ⟨z2, e2, _⟩ | ⟨z2, e2⟩
      · exact z1.symm.trans z2
      · exfalso
        subst z1
        rw [List.getElem?_set_self (by rw [r.len]; exact hi)] at s1
        rw [List.getElem?_set_ne z2] at s2
        cases s1
        cases x with
        | im d' => subst e1; exact m1 rfl
        | ow ds' =>
          obtain ⟨p, vs, q, _, _, _, _, q2⟩ := h
          cases q
          exact q2 k e' e2 m2 s2
    · rcases get_set h2 with ⟨z2, e2, hi⟩ | ⟨z2, e2⟩
      · exfalso
        subst z2
        rw [List.getElem?_set_self (by rw [r.len]; exact hi)] at s2
        rw [List.getElem?_set_ne z1] at s1
        cases s2
        cases x with
        | im d' => subst e2; exact m2 rfl
        | ow ds' =>
          obtain ⟨p, vs, q, _, _, _, _, q2⟩ := h
          cases q
          exact q2 j e e1 m1 s1
      · rw [List.getElem?_set_ne z1] at s1
        rw [List.getElem?_set_ne z2] at s2
        exact r.dj j k e e' l e1 e2 m1 m2 s1 s2
  bx := fun j ds e => by
    rcases get_set e with ⟨_, e1, _⟩ | ⟨z, e1⟩
    · cases x <;> cases e1
    · rw [List.getElem?_set_ne z]
      exact r.bx j ds e1
/-- a slot is forgotten -/
theorem Rel.forget (r : Rel K Fz ba G σ H Hs) (i : Nat) : Rel K Fz ba (G.set i .un) (σ.set i none) H Hs where
  sub := r.sub
  fz := r.fz
  len := by rw [List.length_set, List.length_set]; exact r.len
  im := fun j d e => by
    rcases get_set e with ⟨_, e1, _⟩ | ⟨z, e1⟩
    · cases e1
    · rw [List.getElem?_set_ne z]
      exact r.im j d e1
  mu := fun j en ds e e0 => by
    rcases get_set e with ⟨_, e1, _⟩ | ⟨z, e1⟩
    · subst e1; cases e0
    · rw [List.getElem?_set_ne z]
      exact r.mu j en ds e1 e0
  dj := fun j k e e' l h1 h2 m1 m2 s1 s2 => by
    rcases get_set h1 with ⟨_, e1, _⟩ | ⟨z1, e1⟩
    · subst e1; exact absurd rfl m1
    · rcases get_set h2 with ⟨_, e2, _⟩ | ⟨z2, e2⟩
      · subst e2; exact absurd rfl m2
      · rw [List.getElem?_set_ne z1] at s1
        rw [List.getElem?_set_ne z2] at s2
        exact r.dj j k e e' l e1 e2 m1 m2 s1 s2
  bx := fun j ds e => by
    rcases get_set e with ⟨_, e1, _⟩ | ⟨z, e1⟩
    · cases e1
    · rw [List.getElem?_set_ne z]
      exact r.bx j ds e1
end
def GOk (K : PySem.W.Frag) (t : TE) (f : M R) : Prop := ∀ Fz ba G σ H Hs r G', Rel K Fz ba G σ H Hs → f G = some (r, G') →
  ∀ Q : VK, (∀ v H' Hs', Rel K Fz ba G' σ H' Hs' → Same Hs Hs' → Res K Fz G' σ H' Hs' v r → Q v H') → t σ H Q
def TOk (K : PySem.W.Frag) (t : TT) (f : M Bool) : Prop := ∀ Fz ba G σ H Hs b G', Rel K Fz ba G σ H Hs → f G = some (b, G') →
  ∀ Q : Bool → Hp → Prop, (∀ H' Hs', Rel K Fz ba G' σ H' Hs' → Same Hs Hs' → Q b H') → t σ H Q
def AOk (K : PySem.W.Frag) (t : TA) (f : M (List D)) : Prop := ∀ Fz ba G σ H Hs ds G', Rel K Fz ba G σ H Hs → f G = some (ds, G') →
  ∀ Q : List V → Hp → Prop, (∀ vs H' Hs', Rel K Fz ba G' σ H' Hs' → Same Hs Hs' → DRs K Hs' vs ds → Q vs H') → t σ H Q
inductive Fl where
  | nx | bk | ct | rt (r : R)
abbrev MS := Gam → Option (Fl × Gam)
def Post (K : PySem.W.Frag) (Fz : Hp) (ba : Nat → Addr) (G' : Gam) (Hs : Hp) (Dn : Ends) : Fl → Prop
  | .nx => ∀ σ' H' Hs', Rel K Fz ba G' σ' H' Hs' → Same Hs Hs' → Dn.nx σ' H'
  | .bk => ∀ σ' H' Hs', Rel K Fz ba G' σ' H' Hs' → Same Hs Hs' → Dn.bk σ' H'
  | .ct => ∀ σ' H' Hs', Rel K Fz ba G' σ' H' Hs' → Same Hs Hs' → Dn.ct σ' H'
  | .rt r => ∀ v σ' H' Hs', Rel K Fz ba G' σ' H' Hs' → Same Hs Hs' → Res K Fz G' σ' H' Hs' v r → Dn.rt v H'
def SOk (K : PySem.W.Frag) (t : TS) (f : MS) : Prop := ∀ Fz ba G σ H Hs fl G', Rel K Fz ba G σ H Hs → f G = some (fl, G') → ∀ Dn : Ends, Post K Fz ba G' Hs Dn fl → t Dn σ H
theorem Post.mono {K : PySem.W.Frag} {Fz : Hp} {ba : Nat → Addr} {G' : Gam} {Hs Hs1 : Hp} {Dn : Ends} {fl : Fl} (h : Post K Fz ba G' Hs Dn fl) (s : Same Hs Hs1) : Post K Fz ba G' Hs1 Dn fl := by
  cases fl with
  | nx => exact fun σ' H' Hs' r q => h σ' H' Hs' r (s.trans q)
  | bk => exact fun σ' H' Hs' r q => h σ' H' Hs' r (s.trans q)
  | ct => exact fun σ' H' Hs' r q => h σ' H' Hs' r (s.trans q)
  | rt x => exact fun v σ' H' Hs' r q => h v σ' H' Hs' r (s.trans q)
/-- a target: which slots it writes -/
structure GtOk (K : PySem.W.Frag) (g : TG) (f : D → Gam → Option Gam) (js : List Nat) : Prop where
  run : ∀ Fz ba G σ H Hs v d G', Rel K Fz ba G σ H Hs → DR K Hs v d → f d G = some G' → ∀ Q : L2.St → Hp → Prop, (∀ σ', Rel K Fz ba G' σ' H Hs → σ'.length = σ.length → (∀ i : Nat, i ∉ js → σ'[i]? = σ[i]?) → Q σ' H) → g v σ H Q
/-- an iterator gives the items ds -/
structure Yl (K : PySem.W.Frag) (J : It) (ds : List D) (Hs0 : Hp) : Prop where
  go : ∀ i H, Same Hs0 H → i < ds.length → J.go i H
  stop : ∀ i H, Same Hs0 H → ds.length ≤ i → J.stop i H
  yld : ∀ i x H H' Hs, i < ds.length → Same Hs0 Hs → Same Hs H → J.yld i H x H' → ∃ d Hs', ds[i]? = some d ∧ Ext H Hs H' Hs' ∧ DR K Hs' x d
def IOk (K : PySem.W.Frag) (w : TI) (f : M (List D)) : Prop := ∀ Fz ba G σ H Hs ds G', Rel K Fz ba G σ H Hs → f G = some (ds, G') →
  ∀ Q : It → Hp → Prop, (∀ J H' Hs', Rel K Fz ba G' σ H' Hs' → Same Hs Hs' → Yl K J ds Hs' → Q J H') → w σ H Q
/-- a result that was laid behind H -/
def ResF (K : PySem.W.Frag) (H H' Hs' : Hp) (v : V) : R → Prop
  | .im d => DR K Hs' v d
  | .ow m => ∃ p o, v = .ref p ∧ H p = none ∧ H' p = some o ∧ Hs' p = none ∧ MobO K Hs' m o
theorem ResF.res {K : PySem.W.Frag} {Fz : Hp} {ba : Nat → Addr} {G : Gam} {σ : L2.St} {H Hs H' Hs' : Hp} {v : V} {x : R} (r : Rel K Fz ba G σ H Hs) (h : ResF K H H' Hs' v x) : Res K Fz G σ H' Hs' v x := by
  cases x with
  | im d => exact h
  | ow ds =>
    obtain ⟨p, vs, rfl, h1, h2, h3, h4⟩ := h
    refine ⟨p, vs, rfl, h2, h3, ?_, h4, fun i e g m q => ?_⟩
    · cases z : Fz p with
      | none => rfl
      | some o =>
        obtain ⟨z1, _⟩ := r.fz p o z
        rw [h1] at z1
        cases z1
    · obtain ⟨ds', hd⟩ : ∃ ds', e.mu = some ds' := by
        cases z : e.mu with
        | none => exact absurd z m
        | some ds' => exact ⟨ds', rfl⟩
      obtain ⟨l, ws, q1, q2, _⟩ := r.mu i e ds' g hd
      rw [q] at q1
      cases q1
      rw [h1] at q2
      cases q2
end Bk
namespace Bk
open PySem L2
def bd {α β : Type} (x : Option (α × Gam)) (f : α → Gam → Option β) : Option β := match x with
  | none => none
  | some (a, G) => f a G
@[simp] theorem bd_none {α β : Type} {f : α → Gam → Option β} : bd (none : Option (α × Gam)) f = none := rfl
@[simp] theorem bd_some {α β : Type} {a : α} {G : Gam} {f : α → Gam → Option β} : bd (some (a, G)) f = f a G := rfl
theorem bd_inv {α β : Type} {x : Option (α × Gam)} {f : α → Gam → Option β} {r : β} (h : bd x f = some r) : ∃ a G, x = some (a, G) ∧ f a G = some r := by
  cases x with
  | none => cases h
  | some p => exact ⟨p.1, p.2, rfl, h⟩
def xv (i : Nat) : M R := fun G => match G[i]? with
  | some (.im d) => some (.im d, G)
  | some (.ow m) => some (.im m.d, G.set i (.im m.d))
  | _ => none
/-- the name's list, which the name gives away -/
def xmv (i : Nat) : M R := fun G => match G[i]? with
  | some (.im d) => some (.im d, G)
  | some (.ow m) => some (.ow m, G.set i .un)
  | _ => none
def xc (d : D) : M R := fun G => some (.im d, G)
def xop (o : D → D → Option R) (a b : M R) : M R := fun G => bd (a G) fun x G1 => bd (b G1) fun y G2 => match o x.d y.d with
  | none => none
  | some r => some (r, G2)
def xun (o : D → Option R) (a : M R) : M R := fun G => bd (a G) fun x G1 => match o x.d with
  | none => none
  | some r => some (r, G1)
def xnil : M (List D) := fun G => some ([], G)
def xcons (a : M R) (r : M (List D)) : M (List D) := fun G => bd (a G) fun x G1 => bd (r G1) fun xs G2 => some (x.d :: xs, G2)
def xcb (o : List D → Option R) (a : M (List D)) : M R := fun G => bd (a G) fun xs G1 => match o xs with
  | none => none
  | some r => some (r, G1)
def few (n : Nat) : Bool := decide (n ≤ 16000000)
def xtup (a : M (List D)) : M R := fun G => bd (a G) fun xs G1 => if few xs.length then some (.im (.tup xs), G1) else none
def xlst (a : M (List D)) : M R := fun G => bd (a G) fun xs G1 => if few xs.length then some (.ol xs, G1) else none
def xif (t : M Bool) (a b : M R) : M R := fun G => bd (t G) fun k G1 => if k then a G1 else b G1
def xtest (a : M R) : M Bool := fun G => bd (a G) fun x G1 => match x.d with
  | .bl b => some (b, G1)
  | _ => none
def truth : D → Option Bool
  | .non => some false
  | .bl b => some b
  | .int i => some (i != 0)
  | .str x => if few x.length then some ((x.length : Int) != 0) else none
  | .lst xs => some (!xs.isEmpty)
  | .frz xs => some (!xs.isEmpty)
  | .tup xs => some (!xs.isEmpty)
  | _ => none
def xtru (a : M R) : M Bool := fun G => bd (a G) fun x G1 => match truth x.d with
  | some b => some (b, G1)
  | none => none
def xtand (a b : M Bool) : M Bool := fun G => bd (a G) fun k G1 => if k then b G1 else some (false, G1)
def xtor (a b : M Bool) : M Bool := fun G => bd (a G) fun k G1 => if k then some (true, G1) else b G1
def xtnot (a : M Bool) : M Bool := fun G => bd (a G) fun k G1 => some (!k, G1)
def xtyes : M Bool := fun G => some (true, G)
def xvand (a b : M R) : M R := fun G => bd (a G) fun x G1 => match x.d with
  | .bl k => if k then b G1 else some (.im (.bl false), G1)
  | _ => none
def xvor (a b : M R) : M R := fun G => bd (a G) fun x G1 => match x.d with
  | .bl k => if k then some (.im (.bl true), G1) else b G1
  | _ => none
def xvnot (a : M R) : M R := fun G => bd (a G) fun x G1 => match x.d with
  | .bl k => some (.im (.bl (!k)), G1)
  | _ => none
def xchain (o o' : D → D → Option R) (a b c : M R) : M R := fun G => bd (a G) fun x G1 => bd (b G1) fun y G2 => match o x.d y.d with
  | some (.im (.bl k)) => if k then bd (c G2) fun z G3 => (match o' y.d z.d with | some r => some (r, G3) | none => none) else some (.im (.bl false), G2)
  | _ => none
/-- a slice's part -/
abbrev MO := M (Option Int)
def xnop : MO := fun G => some (none, G)
def xpart (a : M R) : MO := fun G => bd (a G) fun x G1 => match x.d with
  | .int i => some (some i, G1)
  | _ => none
def xsl (o : D → Option Int → Option Int → Option R) (a : M R) (l h : MO) : M R := fun G => bd (a G) fun x G1 => bd (l G1) fun i G2 => bd (h G2) fun j G3 => match o x.d i j with
  | some r => some (r, G3)
  | none => none
def xcall (m : List D → Option R) (a : M (List D)) : M R := fun G => bd (a G) fun xs G1 => match m xs with
  | some r => some (r, G1)
  | none => none
def Ent.with (e : Ent) (m : Mob) : Ent := match e with
  | .ow _ => .ow m
  | .bx _ => .bx m
  | e => e
/-- a call that may change the list of the name at i -/
def isMu (G : Gam) (i : Nat) : Bool := match G[i]? with
  | some e => e.mu.isSome
  | none => false
def isLst (G : Gam) (i : Nat) : Bool := match G[i]? with
  | some e => match e.mu with
    | some (.l _) => true
    | _ => false
  | none => false
def callB (m : Mob → List D → Option (R × Mob)) (i : Nat) (xs : List D) (G1 : Gam) : Option (R × Gam) := match G1[i]? with
  | some e => match e.mu with
    | some bs => match m bs xs with
      | some (r, bs') => some (r, G1.set i (e.with bs'))
      | none => none
    | none => none
  | none => none
def xcallB (m : Mob → List D → Option (R × Mob)) (i : Nat) (a : M (List D)) : M R := fun G => if isMu G i then bd (a G) fun xs G1 => callB m i xs G1 else none
/-- an item of the name's list at i, a number -/
def ixv (i : Nat) (y : D) (G1 : Gam) : Option (R × Gam) := match y, G1[i]? with
  | .int k, some e => match e.mu with
    | some (.l ds) => match atI ds k with
      | some d => some (.im d, G1)
      | none => none
    | _ => none
  | _, _ => none
def xixv (i : Nat) (b : M R) : M R := fun G => if isMu G i then bd (b G) fun y G1 => ixv i y.d G1 else none
/-- one way for a name that owns a list, another for a name that holds a value -/
def xby (i : Nat) (a b : M R) : M R := fun G => if isMu G i then a G else b G
def xnext : MS := fun G => some (.nx, G)
def xseq (s t : MS) : MS := fun G => match s G with
  | some (.nx, G1) => t G1
  | o => o
def xasg (a : M R) (tg : D → Gam → Option Gam) : MS := fun G => bd (a G) fun x G1 => match tg x.d G1 with
  | some G2 => some (.nx, G2)
  | none => none
def xset (i : Nat) (a : M R) : MS := fun G => bd (a G) fun x G1 => some (.nx, G1.set i x.ent)
def xaug (i : Nat) (o : D → D → Option R) (a : M R) : MS := fun G => match G[i]? with
  | some (.im x) => bd (a G) fun y G1 => match o x y.d with
    | some r => some (.nx, G1.set i r.ent)
    | none => none
  | _ => none
def xret (a : M R) : MS := fun G => bd (a G) fun x G1 => some (.rt x, G1)
def xdrop (a : M R) : MS := fun G => bd (a G) fun _ G1 => some (.nx, G1)
def xifs (t : M Bool) (a b : MS) : MS := fun G => bd (t G) fun k G1 => if k then a G1 else b G1
def xnever : MS := fun _ => none
/-- the name's list grows -/
def app (i : Nat) (x : D) (G1 : Gam) : Option (Fl × Gam) := match G1[i]? with
  | some e => match e.mu with
    | some (.l ds) => if few ds.length then some (.nx, G1.set i (e.with (.l (ds ++ [x])))) else none
    | _ => none
  | none => none
def xapp (i : Nat) (a : M R) : MS := fun G => if isLst G i then bd (a G) fun x G1 => app i x.d G1 else none
/-- an item of the name's list is stored -/
def put (i : Nat) (x k : D) (G2 : Gam) : Option (Fl × Gam) := match k, G2[i]? with
  | .int k, some e => match e.mu with
    | some (.l ds) => match ixN ds.length k with
      | some j => some (.nx, G2.set i (e.with (.l (ds.set j x))))
      | none => none
    | _ => none
  | _, _ => none
def xwhileN (c : M Bool) (b : MS) : Nat → MS
  | 0, _ => none
  | n + 1, G => bd (c G) fun k G1 => if k then (match b G1 with
      | some (.nx, G2) => xwhileN c b n G2
      | some (.ct, G2) => xwhileN c b n G2
      | some (.bk, G2) => some (.nx, G2)
      | some (.rt r, G2) => some (.rt r, G2)
      | none => none) else some (.nx, G1)
def xwhile (fuel : Gam → Nat) (c : M Bool) (b : MS) : MS := fun G => xwhileN c b (fuel G) G
def xforL (tg : D → Gam → Option Gam) (b : MS) : List D → MS
  | [], G => some (.nx, G)
  | d :: ds, G => match tg d G with
    | none => none
    | some G1 => match b G1 with
      | some (.nx, G2) => xforL tg b ds G2
      | some (.ct, G2) => xforL tg b ds G2
      | some (.bk, G2) => some (.nx, G2)
      | some (.rt r, G2) => some (.rt r, G2)
      | none => none
def xfor (it : M (List D)) (tg : D → Gam → Option Gam) (b : MS) : MS := fun G => bd (it G) fun ds G1 => xforL tg b ds G1
def tgn (i : Nat) : D → Gam → Option Gam := fun d G => some (G.set i (.im d))
def tgs : List (D → Gam → Option Gam) → List D → Gam → Option Gam
  | [], [], G => some G
  | t :: ts, d :: ds, G => match t d G with
    | some G1 => tgs ts ds G1
    | none => none
  | _, _, _ => none
def tgt (ts : List (D → Gam → Option Gam)) : D → Gam → Option Gam := fun d G => match d with
  | .tup ds => tgs ts ds G
  | _ => none
def wipeG (G : Gam) : List Nat → Gam
  | [] => G
  | v :: vs => (wipeG G vs).set v .un
def unw (G1 G2 : Gam) : List Nat → Gam
  | [] => G2
  | v :: vs => (unw G1 G2 vs).set v (G1.getD v .un)
def noMu (G : Gam) (vs : List Nat) : Bool := vs.all fun v => match G[v]? with
  | some e => e.mu.isNone
  | none => true
def xlcL (tg : D → Gam → Option Gam) (t : M Bool) (e : M R) (vs : List Nat) : List D → M (List D)
  | [], G => some ([], G)
  | d :: ds, G => match tg d G with
    | none => none
    | some G1 => bd (t G1) fun k G2 => if k then bd (e G2) fun x G3 => bd (xlcL tg t e vs ds (wipeG G3 vs)) fun out G4 => some (x.d :: out, G4)
        else xlcL tg t e vs ds (wipeG G2 vs)
def xlc (it : M (List D)) (tg : D → Gam → Option Gam) (t : M Bool) (e : M R) (vs : List Nat) : M R := fun G => bd (it G) fun ds G1 =>
  if noMu G1 vs then bd (xlcL tg t e vs ds (wipeG G1 vs)) fun out G2 => if few out.length then some (.ol out, unw G1 G2 vs) else none else none
def rng (lo : Int) (n : Nat) : List D := (List.range n).map fun (i : Nat) => .int (lo + (i : Int))
def okR (i : Int) : Bool := decide (-(2 ^ 62) ≤ i) && decide (i < 2 ^ 62)
def xrange1 (a : M (List D)) : M (List D) := fun G => bd (a G) fun xs G1 => match xs with
  | [.int n] => if okR n then some (rng 0 n.toNat, G1) else none
  | _ => none
def asL : D → Option (List D)
  | .lst ds => some ds
  | .frz ds => some ds
  | _ => none
def enumD (k : Nat) : List D → List D
  | [] => []
  | d :: ds => .tup [.int (k : Int), d] :: enumD (k + 1) ds
section
variable {K : PySem.W.Frag}
theorem few_ok {n : Nat} (h : few n = true) : n ≤ sizeLine := Nat.le_trans (of_decide_eq_true h) (by decide)
theorem few_lt {n : Nat} (h : few n = true) : n < sizeLine := Nat.lt_of_le_of_lt (of_decide_eq_true h) (by decide)
/-- an expression, its value shared -/
theorem GOk.im {t : TE} {f : M R} (h : GOk K t f) {Fz : Hp} {ba : Nat → Addr} {G : Gam} {σ : L2.St} {H Hs : Hp} {r : R} {G' : Gam} (q : Rel K Fz ba G σ H Hs) (e : f G = some (r, G')) {Q : VK}
    (k : ∀ v H' Hs', Rel K Fz ba G' σ H' Hs' → Same Hs Hs' → DR K Hs' v r.d → Q v H') : t σ H Q :=
  h Fz ba G σ H Hs r G' q e Q fun v H' Hs' q' s x => by
    obtain ⟨Hs2, q2, s2, d⟩ := q'.fzr x
    exact k v H' Hs2 q2 (s.trans s2) d
theorem gk_c {v : V} {d : D} (h : ∀ H, DR K H v d) : GOk K (tC v) (xc d) := fun Fz ba G σ H Hs r G' q e Q k => by
  cases e
  exact k v H Hs q (Same.refl _) (h Hs)
theorem gk_int {i : Int} : GOk K (tC (.int i)) (xc (.int i)) := gk_c fun _ => .int i
theorem gk_bl {b : Bool} : GOk K (tC (.bl b)) (xc (.bl b)) := gk_c fun _ => .bl b
theorem gk_non : GOk K (tC .non) (xc .non) := gk_c fun _ => .non
theorem gk_str {x : PySem.Str} : GOk K (tC (.str x)) (xc (.str x)) := gk_c fun _ => .str x
theorem Rel.notmu {Fz : Hp} {ba : Nat → Addr} {G : Gam} {σ : L2.St} {H Hs : Hp} (q : Rel K Fz ba G σ H Hs) {i : Nat} {e e2 : Ent} {l : Addr} (h1 : G[i]? = some e) (m1 : e.mu ≠ none) (s1 : σ[i]? = some (some (.ref l))) :
    ∀ (j : Nat) (e' : Ent), (G.set i e2)[j]? = some e' → e2.mu = none → e'.mu ≠ none → σ[j]? ≠ some (some (.ref l)) := fun j e' h2 m0 m2 s2 => by
  rcases get_set h2 with ⟨_, e1, _⟩ | ⟨z, h3⟩
  · subst e1; exact m2 m0
  · exact z (q.dj i j e e' l h1 h3 m1 m2 s1 s2)
/-- the entry at i is another, that owns nothing -/
theorem Rel.re {Fz : Hp} {ba : Nat → Addr} {G : Gam} {σ : L2.St} {H Hs : Hp} (q : Rel K Fz ba G σ H Hs) {i : Nat} {e : Ent} (m : e.mu = none) (h : ∀ d, e = .im d → ∃ v, σ[i]? = some (some v) ∧ DR K Hs v d) : Rel K Fz ba (G.set i e) σ H Hs where
  sub := q.sub
  fz := q.fz
  len := by rw [List.length_set]; exact q.len
  im := fun j d h1 => by
    rcases get_set h1 with ⟨rfl, e1, _⟩ | ⟨z, h2⟩
    · exact h d e1.symm
    · exact q.im j d h2
  mu := fun j en ds h1 h0 => by
    rcases get_set h1 with ⟨rfl, e1, _⟩ | ⟨z, h2⟩
    · subst e1; rw [m] at h0; cases h0
    · exact q.mu j en ds h2 h0
  dj := fun j k e1 e2 l h1 h2 m1 m2 s1 s2 => by
    rcases get_set h1 with ⟨_, z1, _⟩ | ⟨z1, h1⟩
    · subst z1; exact absurd m m1
    · rcases get_set h2 with ⟨_, z2, _⟩ | ⟨z2, h2⟩
      · subst z2; exact absurd m m2
      · exact q.dj j k e1 e2 l h1 h2 m1 m2 s1 s2
  bx := fun j ds h1 => by
    rcases get_set h1 with ⟨_, e1, _⟩ | ⟨z, h2⟩
    · subst e1; cases m
    · exact q.bx j ds h2
theorem gk_var {i : Nat} : GOk K (tVar i) (xv i) := fun Fz ba G σ H Hs r G' q e Q k => by
  unfold xv at e
  cases h : G[i]? with
  | none => rw [h] at e; cases e
  | some en =>
    rw [h] at e
    cases en with
    | un => cases e
    | bx ds => cases e
    | im d =>
      cases e
      obtain ⟨v, h1, h2⟩ := q.im i d h
      exact ⟨v, h1, k v H Hs q (Same.refl _) h2⟩
    | ow ds =>
      cases e
      obtain ⟨l, vs, h1, h2, h3, h4, h5⟩ := q.mu i _ ds h rfl
      have q1 : Rel K Fz ba (G.set i .un) σ H Hs := q.re rfl fun d z => nomatch z
      obtain ⟨q2, s2⟩ := q1.froze h2 h3 h4 fun j e' g m => q.notmu h (by simp [Ent.mu]) h1 j e' g rfl m
      have q3 : Rel K Fz ba ((G.set i .un).set i (.im ds.d)) σ H (upd Hs l vs) := q2.re rfl fun d z => by
        cases z
        exact ⟨_, h1, (h5.mono s2).dr upd_same⟩
      rw [List.set_set] at q3
      exact ⟨_, h1, k _ H _ q3 s2 ((h5.mono s2).dr upd_same)⟩
theorem gk_mv {i : Nat} : GOk K (tVar i) (xmv i) := fun Fz ba G σ H Hs r G' q e Q k => by
  unfold xmv at e
  cases h : G[i]? with
  | none => rw [h] at e; cases e
  | some en =>
    rw [h] at e
    cases en with
    | un => cases e
    | bx ds => cases e
    | im d =>
      cases e
      obtain ⟨v, h1, h2⟩ := q.im i d h
      exact ⟨v, h1, k v H Hs q (Same.refl _) h2⟩
    | ow ds =>
      cases e
      obtain ⟨l, vs, h1, h2, h3, h4, h5⟩ := q.mu i _ ds h rfl
      have q1 : Rel K Fz ba (G.set i .un) σ H Hs := q.re rfl fun d z => nomatch z
      exact ⟨_, h1, k _ H Hs q1 (Same.refl _) ⟨l, vs, rfl, h2, h3, h4, h5, fun j e' g m => q.notmu h (by simp [Ent.mu]) h1 j e' g rfl m⟩⟩
def OpD (K : PySem.W.Frag) (r : R2) (o : D → D → Option R) : Prop := ∀ H Hs x y dx dy res, Same Hs H → DR K Hs x dx → DR K Hs y dy → o dx dy = some res →
  ∀ Q : VK, (∀ v H' Hs', Ext H Hs H' Hs' → ResF K H H' Hs' v res → Q v H') → r x y H Q
def UnD (K : PySem.W.Frag) (r : V → Hp → VK → Prop) (o : D → Option R) : Prop := ∀ H Hs x dx res, Same Hs H → DR K Hs x dx → o dx = some res →
  ∀ Q : VK, (∀ v H' Hs', Ext H Hs H' Hs' → ResF K H H' Hs' v res → Q v H') → r x H Q
def CbD (K : PySem.W.Frag) (r : List V → Hp → VK → Prop) (o : List D → Option R) : Prop := ∀ H Hs xs ds res, Same Hs H → DRs K Hs xs ds → o ds = some res →
  ∀ Q : VK, (∀ v H' Hs', Ext H Hs H' Hs' → ResF K H H' Hs' v res → Q v H') → r xs H Q
def SlD (K : PySem.W.Frag) (r : V → Option Int → Option Int → Hp → VK → Prop) (o : D → Option Int → Option Int → Option R) : Prop := ∀ H Hs x dx l h res, Same Hs H → DR K Hs x dx → o dx l h = some res →
  ∀ Q : VK, (∀ v H' Hs', Ext H Hs H' Hs' → ResF K H H' Hs' v res → Q v H') → r x l h H Q
theorem gk_op {r : R2} {o : D → D → Option R} {ta tb : TE} {a b : M R} (ho : OpD K r o) (ha : GOk K ta a) (hb : GOk K tb b) : GOk K (tOp r ta tb) (xop o a b) := fun Fz ba G σ H Hs res G' q e Q k => by
  obtain ⟨x, G1, e1, e⟩ := bd_inv e
  obtain ⟨y, G2, e2, e⟩ := bd_inv e
  cases h : o x.d y.d with
  | none => rw [h] at e; cases e
  | some r' =>
    rw [h] at e
    cases e
    refine ha.im q e1 fun v1 H1 Hs1 q1 s1 d1 => ?_
    refine hb.im q1 e2 fun v2 H2 Hs2 q2 s2 d2 => ?_
    exact ho H2 Hs2 v1 v2 x.d y.d _ q2.sub (d1.mono s2) d2 h Q fun v H3 Hs3 ex rf => k v H3 Hs3 (q2.ext ex) ((s1.trans s2).trans ex.b) (rf.res q2)
theorem gk_un {r : V → Hp → VK → Prop} {o : D → Option R} {ta : TE} {a : M R} (ho : UnD K r o) (ha : GOk K ta a) : GOk K (tUn r ta) (xun o a) := fun Fz ba G σ H Hs res G' q e Q k => by
  obtain ⟨x, G1, e1, e⟩ := bd_inv e
  cases h : o x.d with
  | none => rw [h] at e; cases e
  | some r' =>
    rw [h] at e
    cases e
    refine ha.im q e1 fun v1 H1 Hs1 q1 s1 d1 => ?_
    exact ho H1 Hs1 v1 x.d _ q1.sub d1 h Q fun v H3 Hs3 ex rf => k v H3 Hs3 (q1.ext ex) (s1.trans ex.b) (rf.res q1)
theorem ak_nil : AOk K tNil xnil := fun Fz ba G σ H Hs ds G' q e Q k => by
  cases e
  exact k [] H Hs q (Same.refl _) .nil
theorem ak_cons {ta : TE} {tr : TA} {a : M R} {r : M (List D)} (ha : GOk K ta a) (hr : AOk K tr r) : AOk K (tCons ta tr) (xcons a r) := fun Fz ba G σ H Hs ds G' q e Q k => by
  obtain ⟨x, G1, e1, e⟩ := bd_inv e
  obtain ⟨xs, G2, e2, e⟩ := bd_inv e
  cases e
  refine ha.im q e1 fun v1 H1 Hs1 q1 s1 d1 => ?_
  exact hr Fz ba G1 σ H1 Hs1 xs _ q1 e2 _ fun vs H2 Hs2 q2 s2 d2 => k _ H2 Hs2 q2 (s1.trans s2) (.cons (d1.mono s2) d2)
theorem gk_cb {r : List V → Hp → VK → Prop} {o : List D → Option R} {ta : TA} {a : M (List D)} (ho : CbD K r o) (ha : AOk K ta a) : GOk K (tCB r ta) (xcb o a) := fun Fz ba G σ H Hs res G' q e Q k => by
  obtain ⟨xs, G1, e1, e⟩ := bd_inv e
  cases h : o xs with
  | none => rw [h] at e; cases e
  | some r' =>
    rw [h] at e
    cases e
    refine ha Fz ba G σ H Hs xs _ q e1 _ fun vs H1 Hs1 q1 s1 d1 => ?_
    exact ho H1 Hs1 vs xs _ q1.sub d1 h Q fun v H3 Hs3 ex rf => k v H3 Hs3 (q1.ext ex) (s1.trans ex.b) (rf.res q1)
theorem gk_tup {ta : TA} {a : M (List D)} (ha : AOk K ta a) : GOk K (tTup ta) (xtup a) := fun Fz ba G σ H Hs res G' q e Q k => by
  obtain ⟨xs, G1, e1, e⟩ := bd_inv e
  split at e
  · rename_i hf
    cases e
    refine ha Fz ba G σ H Hs xs _ q e1 _ fun vs H1 Hs1 q1 s1 d1 => ⟨by rw [d1.len]; exact few_ok hf, fun p hp => ?_⟩
    have ex : Ext H1 Hs1 (upd H1 p (.tup vs)) (upd Hs1 p (.tup vs)) := Ext.new q1.sub hp
    exact k _ _ _ (q1.ext ex) (s1.trans ex.b) (.tup (SqT.of upd_same) (d1.mono ex.b))
  · cases e
theorem gk_lst {ta : TA} {a : M (List D)} (ha : AOk K ta a) : GOk K (tLst ta) (xlst a) := fun Fz ba G σ H Hs res G' q e Q k => by
  obtain ⟨xs, G1, e1, e⟩ := bd_inv e
  split at e
  · rename_i hf
    cases e
    refine ha Fz ba G σ H Hs xs _ q e1 _ fun vs H1 Hs1 q1 s1 d1 => ⟨by rw [d1.len]; exact few_ok hf, fun p hp => ?_⟩
    have ex : Ext H1 Hs1 (upd H1 p (.lst vs)) Hs1 := Ext.hid q1.sub hp
    have rf : ResF K H1 (upd H1 p (.lst vs)) Hs1 (.ref p) (.ol xs) := ⟨p, _, rfl, hp, upd_same, none_sub q1.sub hp, vs, rfl, d1⟩
    exact k _ _ _ (q1.ext ex) (s1.trans ex.b) (rf.res q1)
  · cases e
theorem gk_if {t : TT} {ta tb : TE} {c : M Bool} {a b : M R} (hc : TOk K t c) (ha : GOk K ta a) (hb : GOk K tb b) : GOk K (tIf t ta tb) (xif c a b) := fun Fz ba G σ H Hs res G' q e Q k => by
  obtain ⟨x, G1, e1, e⟩ := bd_inv e
  refine hc Fz ba G σ H Hs x G1 q e1 _ fun H1 Hs1 q1 s1 => ?_
  cases x with
  | true => exact ha Fz ba G1 σ H1 Hs1 res G' q1 e Q fun v H2 Hs2 q2 s2 d => k v H2 Hs2 q2 (s1.trans s2) d
  | false => exact hb Fz ba G1 σ H1 Hs1 res G' q1 e Q fun v H2 Hs2 q2 s2 d => k v H2 Hs2 q2 (s1.trans s2) d
theorem dr_bl {H : Hp} {v : V} {b : Bool} (h : DR K H v (.bl b)) : v = .bl b := by cases h; rfl
theorem dr_int {H : Hp} {v : V} {i : Int} (h : DR K H v (.int i)) : v = .int i := by cases h; rfl
theorem tk_test {ta : TE} {a : M R} (ha : GOk K ta a) : TOk K (tTest ta) (xtest a) := fun Fz ba G σ H Hs b G' q e Q k => by
  obtain ⟨x, G1, e1, e⟩ := bd_inv e
  refine ha.im q e1 fun v H1 Hs1 q1 s1 d => ?_
  cases h : x.d with
  | bl c =>
    rw [h] at e d
    cases e
    exact ⟨_, dr_bl d, k H1 Hs1 q1 s1⟩
  | _ => rw [h] at e; cases e
theorem truth_ok {H : Hp} {v : V} {d : D} {b : Bool} (h : DR K H v d) (e : truth d = some b) : TruV K v H b := by
  have emp : ∀ {vs : List V} {ds : List D}, DRs K H vs ds → (!ds.isEmpty) = !vs.isEmpty := fun h => by cases h <;> rfl
  cases h with
  | non => cases e; rfl
  | bl b => cases e; rfl
  | int i => cases e; rfl
  | str x =>
    by_cases hf : few x.length = true
    · rw [show truth (.str x) = some ((x.length : Int) != 0) from if_pos hf] at e
      cases e
      exact ⟨few_ok hf, rfl⟩
    · rw [show truth (.str x) = none from if_neg hf] at e
      cases e
  | lst h hs => cases e; exact .inl ⟨_, SqL.of h, emp hs⟩
  | frz h hs => cases e; exact .inl ⟨_, h, emp hs⟩
  | tup h hs => cases e; exact .inr (.inl ⟨_, h, emp hs⟩)
  | _ => cases e
theorem tru_mono {x : V} {H H' : Hp} {k : Bool} (s : Same H H') (h : TruV K x H k) : TruV K x H' k := by
  cases x with
  | ref p =>
    rcases h with ⟨xs, h1, h2⟩ | ⟨xs, h1, h2⟩ | ⟨kvs, h1, h2⟩
    · exact .inl ⟨xs, same_lst s h1, h2⟩
    · exact .inr (.inl ⟨xs, same_tup s h1, h2⟩)
    · exact .inr (.inr ⟨kvs, s _ _ h1, h2⟩)
  | _ => exact h
theorem tk_tru {ta : TE} {a : M R} (ha : GOk K ta a) : TOk K (fun σ H Q => ta σ H fun x H' => ∃ k, TruV K x H' k ∧ Q k H') (xtru a) := fun Fz ba G σ H Hs b G' q e Q k => by
  obtain ⟨x, G1, e1, e⟩ := bd_inv e
  refine ha.im q e1 fun v H1 Hs1 q1 s1 d => ?_
  cases h : truth x.d with
  | none => rw [h] at e; cases e
  | some c =>
    rw [h] at e
    cases e
    exact ⟨_, tru_mono q1.sub (truth_ok d h), k H1 Hs1 q1 s1⟩
theorem tk_and {t u : TT} {a b : M Bool} (ha : TOk K t a) (hb : TOk K u b) : TOk K (tAnd t u) (xtand a b) := fun Fz ba G σ H Hs r G' q e Q k => by
  obtain ⟨x, G1, e1, e⟩ := bd_inv e
  refine ha Fz ba G σ H Hs x G1 q e1 _ fun H1 Hs1 q1 s1 => ?_
  cases x with
  | true => exact hb Fz ba G1 σ H1 Hs1 r G' q1 e Q fun H2 Hs2 q2 s2 => k H2 Hs2 q2 (s1.trans s2)
  | false => cases e; exact k H1 Hs1 q1 s1
theorem tk_or {t u : TT} {a b : M Bool} (ha : TOk K t a) (hb : TOk K u b) : TOk K (tOr t u) (xtor a b) := fun Fz ba G σ H Hs r G' q e Q k => by
  obtain ⟨x, G1, e1, e⟩ := bd_inv e
  refine ha Fz ba G σ H Hs x G1 q e1 _ fun H1 Hs1 q1 s1 => ?_
  cases x with
  | true => cases e; exact k H1 Hs1 q1 s1
  | false => exact hb Fz ba G1 σ H1 Hs1 r G' q1 e Q fun H2 Hs2 q2 s2 => k H2 Hs2 q2 (s1.trans s2)
theorem tk_not {t : TT} {a : M Bool} (ha : TOk K t a) : TOk K (tNot t) (xtnot a) := fun Fz ba G σ H Hs r G' q e Q k => by
  obtain ⟨x, G1, e1, e⟩ := bd_inv e
  cases e
  exact ha Fz ba G σ H Hs x _ q e1 _ fun H1 Hs1 q1 s1 => k H1 Hs1 q1 s1
theorem tk_yes : TOk K tYes xtyes := fun Fz ba G σ H Hs r G' q e Q k => by
  cases e
  exact k H Hs q (Same.refl _)
theorem gk_vand {ta tb : TE} {a b : M R} (ha : GOk K ta a) (hb : GOk K tb b) : GOk K (tAndV ta tb) (xvand a b) := fun Fz ba G σ H Hs res G' q e Q k => by
  obtain ⟨x, G1, e1, e⟩ := bd_inv e
  refine ha.im q e1 fun v H1 Hs1 q1 s1 d => ?_
  cases h : x.d with
  | bl c =>
    rw [h] at e d
    refine ⟨c, dr_bl d, ?_⟩
    cases c with
    | true => exact hb Fz ba G1 σ H1 Hs1 res G' q1 e Q fun v H2 Hs2 q2 s2 d => k v H2 Hs2 q2 (s1.trans s2) d
    | false => cases e; exact k _ H1 Hs1 q1 s1 (.bl false)
  | _ => rw [h] at e; cases e
theorem gk_vor {ta tb : TE} {a b : M R} (ha : GOk K ta a) (hb : GOk K tb b) : GOk K (tOrV ta tb) (xvor a b) := fun Fz ba G σ H Hs res G' q e Q k => by
  obtain ⟨x, G1, e1, e⟩ := bd_inv e
  refine ha.im q e1 fun v H1 Hs1 q1 s1 d => ?_
  cases h : x.d with
  | bl c =>
    rw [h] at e d
    refine ⟨c, dr_bl d, ?_⟩
    cases c with
    | false => exact hb Fz ba G1 σ H1 Hs1 res G' q1 e Q fun v H2 Hs2 q2 s2 d => k v H2 Hs2 q2 (s1.trans s2) d
    | true => cases e; exact k _ H1 Hs1 q1 s1 (.bl true)
  | _ => rw [h] at e; cases e
theorem gk_vnot {ta : TE} {a : M R} (ha : GOk K ta a) : GOk K (tNotV ta) (xvnot a) := fun Fz ba G σ H Hs res G' q e Q k => by
  obtain ⟨x, G1, e1, e⟩ := bd_inv e
  refine ha.im q e1 fun v H1 Hs1 q1 s1 d => ?_
  cases h : x.d with
  | bl c =>
    rw [h] at e d
    cases e
    exact ⟨c, dr_bl d, k _ H1 Hs1 q1 s1 (.bl _)⟩
  | _ => rw [h] at e; cases e
theorem gk_chain {r r' : R2} {o o' : D → D → Option R} {ta tb tc : TE} {a b c : M R} (ho : OpD K r o) (ho' : OpD K r' o') (ha : GOk K ta a) (hb : GOk K tb b) (hc : GOk K tc c) : GOk K (tChain r r' ta tb tc) (xchain o o' a b c) :=
  fun Fz ba G σ H Hs res G' q e Q k => by
  obtain ⟨x, G1, e1, e⟩ := bd_inv e
  obtain ⟨y, G2, e2, e⟩ := bd_inv e
  refine ha.im q e1 fun v1 H1 Hs1 q1 s1 d1 => ?_
  refine hb.im q1 e2 fun v2 H2 Hs2 q2 s2 d2 => ?_
  cases h : o x.d y.d with
  | none => rw [h] at e; cases e
  | some r1 =>
    rw [h] at e
    cases r1 with
    | ow ds => cases e
    | im dd =>
      cases dd with
      | bl kk =>
        refine ho H2 Hs2 v1 v2 x.d y.d _ q2.sub (d1.mono s2) d2 h _ fun v H3 Hs3 ex rf => ⟨kk, dr_bl rf, ?_⟩
        have q3 := q2.ext ex
        cases kk with
        | false => cases e; exact k _ H3 Hs3 q3 ((s1.trans s2).trans ex.b) (.bl false)
        | true =>
          obtain ⟨z, G3, e3, e⟩ := bd_inv e
          cases h' : o' y.d z.d with
          | none => rw [h'] at e; cases e
          | some r2 =>
            rw [h'] at e
            cases e
            refine hc.im q3 e3 fun v3 H4 Hs4 q4 s4 d4 => ?_
            exact ho' H4 Hs4 v2 v3 y.d z.d _ q4.sub (d2.mono (ex.b.trans s4)) d4 h' Q fun v H5 Hs5 ex5 rf5 => k v H5 Hs5 (q4.ext ex5) ((((s1.trans s2).trans ex.b).trans s4).trans ex5.b) (rf5.res q4)
      | _ => cases e
def POk (K : PySem.W.Frag) (t : TO) (f : MO) : Prop := ∀ Fz ba G σ H Hs o G', Rel K Fz ba G σ H Hs → f G = some (o, G') →
  ∀ Q : Option Int → Hp → Prop, (∀ H' Hs', Rel K Fz ba G' σ H' Hs' → Same Hs Hs' → Q o H') → t σ H Q
theorem pk_none : POk K tNoPart xnop := fun Fz ba G σ H Hs r G' q e Q k => by
  cases e
  exact k H Hs q (Same.refl _)
theorem pk_some {ta : TE} {a : M R} (ha : GOk K ta a) : POk K (tPart ta) (xpart a) := fun Fz ba G σ H Hs r G' q e Q k => by
  obtain ⟨x, G1, e1, e⟩ := bd_inv e
  refine ha.im q e1 fun v H1 Hs1 q1 s1 d => ?_
  cases h : x.d with
  | int i =>
    rw [h] at e d
    cases e
    exact ⟨i, dr_int d, k H1 Hs1 q1 s1⟩
  | _ => rw [h] at e; cases e
theorem gk_sl {r : V → Option Int → Option Int → Hp → VK → Prop} {o : D → Option Int → Option Int → Option R} {ta : TE} {tl th : TO} {a : M R} {l h : MO} (ho : SlD K r o) (ha : GOk K ta a) (hl : POk K tl l) (hh : POk K th h) : GOk K (tSl r ta tl th) (xsl o a l h) :=
  fun Fz ba G σ H Hs res G' q e Q k => by
  obtain ⟨x, G1, e1, e⟩ := bd_inv e
  obtain ⟨i, G2, e2, e⟩ := bd_inv e
  obtain ⟨j, G3, e3, e⟩ := bd_inv e
  cases h' : o x.d i j with
  | none => rw [h'] at e; cases e
  | some r1 =>
    rw [h'] at e
    cases e
    refine ha.im q e1 fun v1 H1 Hs1 q1 s1 d1 => ?_
    refine hl Fz ba G1 σ H1 Hs1 i G2 q1 e2 _ fun H2 Hs2 q2 s2 => ?_
    refine hh Fz ba G2 σ H2 Hs2 j _ q2 e3 _ fun H3 Hs3 q3 s3 => ?_
    exact ho H3 Hs3 v1 x.d i j _ q3.sub (d1.mono (s2.trans s3)) h' Q fun v H5 Hs5 ex5 rf5 => k v H5 Hs5 (q3.ext ex5) (((s1.trans s2).trans s3).trans ex5.b) (rf5.res q3)
end
end Bk
namespace Bk
open PySem L2
section
variable {K : PySem.W.Frag}
/-- a def that computes m -/
def spF (K : PySem.W.Frag) (m : List D → Option R) : Sp := fun vs H Q _ => ∃ Hs ds r, Same Hs H ∧ DRs K Hs vs ds ∧ m ds = some r ∧ ∀ v H' Hs', Ext H Hs H' Hs' → ResF K H H' Hs' v r → Q v H'
structure ExtB (l : Addr) (H Hs H' Hs' : Hp) : Prop where
  a : ∀ x o, x ≠ l → H x = some o → H' x = some o
  b : Same Hs Hs'
  c : Same Hs' H'
  n : ∀ x o, H x = some o → Hs x = none → Hs' x = none
/-- a def whose first argument is a list that it may change -/
def spB (K : PySem.W.Frag) (m : Mob → List D → Option (R × Mob)) : Sp := fun vs H Q _ => ∃ Hs l vs' bo bds ds r bds', vs = V.ref l :: vs' ∧ Same Hs H ∧ H l = some bo ∧ Hs l = none ∧ MobO K Hs bds bo ∧ DRs K Hs vs' ds ∧
  m bds ds = some (r, bds') ∧ ∀ v H' Hs' bo', ExtB l H Hs H' Hs' → H' l = some bo' → Hs' l = none → MobO K Hs' bds' bo' → ResF K H H' Hs' v r → Q v H'
theorem gk_call {m : List D → Option R} {E : XK} {ta : TA} {a : M (List D)} (ha : AOk K ta a) : GOk K (tCall (spF K m) [] E ta) (xcall m a) := fun Fz ba G σ H Hs res G' q e Q k => by
  obtain ⟨xs, G1, e1, e⟩ := bd_inv e
  cases h : m xs with
  | none => rw [h] at e; cases e
  | some r' =>
    rw [h] at e
    cases e
    refine ha Fz ba G σ H Hs xs _ q e1 _ fun vs H1 Hs1 q1 s1 d1 => ?_
    exact ⟨Hs1, xs, _, q1.sub, by rw [List.append_nil]; exact d1, h, fun v H3 Hs3 ex rf => k v H3 Hs3 (q1.ext ex) (s1.trans ex.b) (rf.res q1)⟩
theorem with_mu {e : Ent} {ds es : Mob} (h : e.mu = some ds) : (e.with es).mu = some es := by
  cases e with
  | un => cases h
  | im d => cases h
  | ow _ => rfl
  | bx _ => rfl
/-- the list of the name at i has changed -/
theorem Rel.mut {Fz : Hp} {ba : Nat → Addr} {G : Gam} {σ : L2.St} {H Hs H' Hs' : Hp} (q : Rel K Fz ba G σ H Hs) {i : Nat} {e : Ent} {ds es : Mob} {l : Addr} {ws : HO} (h : G[i]? = some e) (m : e.mu = some ds) (s : σ[i]? = some (some (.ref l)))
    (x : ExtB l H Hs H' Hs') (hl : H' l = some ws) (hn : Hs' l = none) (hd : MobO K Hs' es ws) : Rel K Fz ba (G.set i (e.with es)) σ H' Hs' := by
  obtain ⟨l0, vs0, z1, z2, z3, z4, _⟩ := q.mu i e ds h m
  rw [s] at z1
  cases z1
  have me : e.mu ≠ none := by rw [m]; simp
  refine ⟨x.c, fun a o f => ?_, by rw [List.length_set]; exact q.len, fun j d f => ?_, fun j en ds' f f0 => ?_, fun j k e1 e2 l' f1 f2 m1 m2 s1 s2 => ?_, fun j ds' f => ?_⟩
  · obtain ⟨f1, f2⟩ := q.fz a o f
    have ne : a ≠ l := ne_of_none f z4
    exact ⟨x.a a o ne f1, x.n a o f1 f2⟩
  · rcases get_set f with ⟨_, e1, _⟩ | ⟨_, f⟩
    · exfalso
      have z := with_mu (es := es) m
      rw [← e1] at z
      cases z
    · obtain ⟨v, g1, g2⟩ := q.im j d f
      exact ⟨v, g1, g2.mono x.b⟩
  · rcases get_set f with ⟨rfl, e1, _⟩ | ⟨z, f⟩
    · subst e1
      rw [with_mu m] at f0
      cases f0
      exact ⟨l, ws, s, hl, hn, z4, hd⟩
    · obtain ⟨l', vs, g1, g2, g3, g4, g5⟩ := q.mu j en ds' f f0
      have ne : l' ≠ l := fun y => by
        subst y
        exact z (q.dj i j e en l' h f me (by rw [f0]; simp) s g1)
      exact ⟨l', vs, g1, x.a l' _ ne g2, x.n l' _ g2 g3, g4, g5.mono x.b⟩
  · have old : ∀ {j : Nat} {en : Ent}, (G.set i (e.with es))[j]? = some en → en.mu ≠ none → ∃ en', G[j]? = some en' ∧ en'.mu ≠ none := fun {j en} f m' => by
      rcases get_set f with ⟨rfl, _, _⟩ | ⟨_, f⟩
      · exact ⟨e, h, me⟩
      · exact ⟨en, f, m'⟩
    obtain ⟨y1, a1, a2⟩ := old f1 m1
    obtain ⟨y2, b1, b2⟩ := old f2 m2
    exact q.dj j k y1 y2 l' a1 b1 a2 b2 s1 s2
  · rcases get_set f with ⟨rfl, e1, _⟩ | ⟨_, f⟩
    · cases e with
      | un => cases m
      | im d => cases m
      | ow _ => cases e1
      | bx bs => exact q.bx i bs h
    · exact q.bx j ds' f
theorem isMu_ok {G : Gam} {i : Nat} (h : isMu G i = true) : ∃ e ds, G[i]? = some e ∧ e.mu = some ds := by
  unfold isMu at h
  cases z : G[i]? with
  | none => rw [z] at h; cases h
  | some e =>
    rw [z] at h
    cases y : e.mu with
    | none => simp only [y] at h; cases h
    | some ds => exact ⟨e, ds, rfl, y⟩
theorem gk_callB {m : Mob → List D → Option (R × Mob)} {E : XK} {i : Nat} {ta : TA} {a : M (List D)} (ha : AOk K ta a) : GOk K (tCall (spB K m) [] E (tCons (tVar i) ta)) (xcallB m i a) := fun Fz ba G σ H Hs res G' q e Q k => by
  unfold xcallB at e
  split at e
  case isFalse => cases e
  rename_i hm
  obtain ⟨e0, ds0, y1, y2⟩ := isMu_ok hm
  obtain ⟨l, vs0, y3, _⟩ := q.mu i e0 ds0 y1 y2
  obtain ⟨xs, G1, e1, e⟩ := bd_inv e
  unfold callB at e
  cases h : G1[i]? with
  | none => rw [h] at e; cases e
  | some en =>
    cases h0 : en.mu with
    | none => simp only [h, h0] at e; cases e
    | some bs =>
      simp only [h, h0] at e
      cases h1 : m bs xs with
      | none => simp only [h1] at e; cases e
      | some p =>
        obtain ⟨r1, bs'⟩ := p
        simp only [h1] at e
        cases e
        refine ⟨_, y3, ?_⟩
        refine ha Fz ba G σ H Hs xs _ q e1 _ fun vs H1 Hs1 q1 s1 d1 => ?_
        obtain ⟨l', bvs, g1, g2, g3, g4, g5⟩ := q1.mu i en bs h h0
        rw [y3] at g1
        cases g1
        refine ⟨Hs1, l, vs, bvs, bs, xs, _, bs', by rw [List.append_nil], q1.sub, g2, g3, g5, d1, h1, fun v H3 Hs3 ws ex hl hn hd rf => ?_⟩
        have q3 := q1.mut h h0 y3 ex hl hn hd
        refine k v H3 Hs3 q3 (s1.trans ex.b) ?_
        cases res with
        | im d => exact rf
        | ow ds =>
          obtain ⟨p, vs, rfl, z1, z2, z3, z4⟩ := rf
          refine ⟨p, vs, rfl, z2, z3, ?_, z4, fun j en' g mm qq => ?_⟩
          · cases z : Fz p with
            | none => rfl
            | some o =>
              obtain ⟨w1, _⟩ := q1.fz p o z
              rw [z1] at w1
              cases w1
          · obtain ⟨ds', hd'⟩ : ∃ ds', en'.mu = some ds' := by
              cases z : en'.mu with
              | none => exact absurd z mm
              | some ds' => exact ⟨ds', rfl⟩
            have old : ∃ o, H1 p = some o := by
              rcases get_set g with ⟨rfl, _, _⟩ | ⟨_, g⟩
              · rw [y3] at qq
                cases qq
                exact ⟨_, g2⟩
              · obtain ⟨l2, ws2, q1', q2', _⟩ := q1.mu j en' ds' g hd'
                rw [qq] at q1'
                cases q1'
                exact ⟨_, q2'⟩
            obtain ⟨o, ho⟩ := old
            rw [z1] at ho
            cases ho
theorem Rel.same_slot {Fz : Hp} {ba : Nat → Addr} {G : Gam} {σ : L2.St} {H Hs : Hp} (q : Rel K Fz ba G σ H Hs) {i : Nat} (h : isMu G i = true) : ∃ l, σ[i]? = some (some (.ref l)) ∧
    ∀ G1 H1 Hs1 e ds, Rel K Fz ba G1 σ H1 Hs1 → G1[i]? = some e → e.mu = some ds → ∃ vs, H1 l = some vs ∧ Hs1 l = none ∧ MobO K Hs1 ds vs := by
  obtain ⟨e0, ds0, y1, y2⟩ := isMu_ok h
  obtain ⟨l, vs0, y3, _⟩ := q.mu i e0 ds0 y1 y2
  refine ⟨l, y3, fun G1 H1 Hs1 e ds q1 h1 h2 => ?_⟩
  obtain ⟨l', bvs, g1, g2, g3, g4, g5⟩ := q1.mu i e ds h1 h2
  rw [y3] at g1
  cases g1
  exact ⟨bvs, g2, g3, g5⟩
theorem at_ok {H : Hp} {vs : List V} {ds : List D} {k : Int} {d : D} (h : DRs K H vs ds) (e : atI ds k = some d) : ∃ v, atI vs k = some v ∧ DR K H v d := by
  unfold atI at e ⊢
  rw [h.len]
  cases z : ixN ds.length k with
  | none => rw [z] at e; cases e
  | some j =>
    rw [z] at e
    exact h.at (i := j) e
theorem gk_ixv {i : Nat} {tb : TE} {b : M R} (hb : GOk K tb b) : GOk K (tOp (rIx K) (tVar i) tb) (xixv i b) := fun Fz ba G σ H Hs res G' q e Q k => by
  unfold xixv at e
  split at e
  case isFalse => cases e
  rename_i hm
  obtain ⟨l, y3, yk⟩ := q.same_slot hm
  obtain ⟨y, G1, e1, e⟩ := bd_inv e
  refine ⟨_, y3, ?_⟩
  refine hb.im q e1 fun v H1 Hs1 q1 s1 d1 => ?_
  unfold ixv at e
  cases hy : y.d with
  | int n =>
    rw [hy] at d1 e
    cases h : G1[i]? with
    | none => simp only [h] at e; cases e
    | some en =>
      cases h0 : en.mu with
      | none => simp only [h, h0] at e; cases e
      | some mm =>
       cases mm with
       | o _ _ => simp only [h, h0] at e; cases e
       | l ds =>
        simp only [h, h0] at e
        cases h1 : atI ds n with
        | none => simp only [h1] at e; cases e
        | some d =>
          simp only [h1] at e
          cases e
          obtain ⟨_, z1, z2, vs, rfl, z3⟩ := yk _ H1 Hs1 en (.l ds) q1 h h0
          obtain ⟨w, w1, w2⟩ := at_ok z3 h1
          exact .inl ⟨l, vs, n, w, rfl, dr_int d1, SqL.of z1, w1, k w H1 Hs1 q1 s1 w2⟩
  | _ => simp only [hy] at e; cases e
def rLen (K : PySem.W.Frag) : List V → Hp → VK → Prop := fun xs H Q => ∃ x n, xs = [x] ∧ LenV K x H n ∧ Q (.int n) H
theorem gk_by {i : Nat} {t : TE} {a b : M R} (ha : GOk K t a) (hb : GOk K t b) : GOk K t (xby i a b) := fun Fz ba G σ H Hs res G' q e Q k => by
  unfold xby at e
  split at e
  · exact ha Fz ba G σ H Hs res G' q e Q k
  · exact hb Fz ba G σ H Hs res G' q e Q k
theorem sk_next : SOk K tNext xnext := fun Fz ba G σ H Hs fl G' q e Dn p => by
  cases e
  exact p σ H Hs q (Same.refl _)
theorem sk_seq {t u : TS} {a b : MS} (ha : SOk K t a) (hb : SOk K u b) : SOk K (tSeq t u) (xseq a b) := fun Fz ba G σ H Hs fl G' q e Dn p => by
  unfold xseq at e
  cases h : a G with
  | none => rw [h] at e; cases e
  | some x =>
    obtain ⟨f1, G1⟩ := x
    rw [h] at e
    refine ha Fz ba G σ H Hs f1 G1 q h { Dn with nx := u Dn } ?_
    cases f1 with
    | nx => exact fun σ1 H1 Hs1 q1 s1 => hb Fz ba G1 σ1 H1 Hs1 fl G' q1 e Dn (p.mono s1)
    | bk => cases e; exact p
    | ct => cases e; exact p
    | rt r => cases e; exact p
theorem sk_asg {ta : TE} {g : TG} {a : M R} {tg : D → Gam → Option Gam} {js : List Nat} (ha : GOk K ta a) (hg : GtOk K g tg js) : SOk K (tAsg ta g) (xasg a tg) := fun Fz ba G σ H Hs fl G' q e Dn p => by
  obtain ⟨x, G1, e1, e⟩ := bd_inv e
  cases h : tg x.d G1 with
  | none => rw [h] at e; cases e
  | some G2 =>
    rw [h] at e
    cases e
    refine ha.im q e1 fun v H1 Hs1 q1 s1 d1 => ?_
    exact hg.run Fz ba G1 σ H1 Hs1 v x.d _ q1 d1 h _ fun σ' q2 _ _ => p σ' H1 Hs1 q2 s1
theorem sk_set {i : Nat} {ta : TE} {a : M R} (ha : GOk K ta a) : SOk K (tAsg ta (gName i)) (xset i a) := fun Fz ba G σ H Hs fl G' q e Dn p => by
  obtain ⟨x, G1, e1, e⟩ := bd_inv e
  cases e
  exact ha Fz ba G σ H Hs x _ q e1 _ fun v H1 Hs1 q1 s1 r1 => p _ H1 Hs1 (q1.set r1) s1
theorem sk_aug {i : Nat} {ta : TE} {r : TIp} {o : D → D → Option R} {a : M R} (ho : OpD K r o) (ha : GOk K ta a) : SOk K (tAug i ta r) (xaug i o a) := fun Fz ba G σ H Hs fl G' q e Dn p => by
  unfold xaug at e
  cases h : G[i]? with
  | none => rw [h] at e; cases e
  | some en =>
    rw [h] at e
    cases en with
    | im x =>
      obtain ⟨y, G1, e1, e⟩ := bd_inv e
      obtain ⟨v, g1, g2⟩ := q.im i x h
      cases h1 : o x y.d with
      | none => simp only [h1] at e; cases e
      | some r1 =>
        simp only [h1] at e
        cases e
        refine ⟨v, g1, ?_⟩
        refine ha.im q e1 fun w H1 Hs1 q1 s1 d1 => ?_
        exact ho H1 Hs1 v w x y.d r1 q1.sub (g2.mono s1) d1 h1 _ fun z H2 Hs2 ex rf => p _ H2 Hs2 ((q1.ext ex).set (rf.res q1)) (s1.trans ex.b)
    | _ => cases e
theorem sk_ret {ta : TE} {a : M R} (ha : GOk K ta a) : SOk K (tRet ta) (xret a) := fun Fz ba G σ H Hs fl G' q e Dn p => by
  obtain ⟨x, G1, e1, e⟩ := bd_inv e
  cases e
  exact ha Fz ba G σ H Hs x _ q e1 _ fun v H1 Hs1 q1 s1 r1 => p v σ H1 Hs1 q1 s1 r1
theorem sk_drop {ta : TE} {a : M R} (ha : GOk K ta a) : SOk K (tDrop ta) (xdrop a) := fun Fz ba G σ H Hs fl G' q e Dn p => by
  obtain ⟨x, G1, e1, e⟩ := bd_inv e
  cases e
  exact ha Fz ba G σ H Hs x _ q e1 _ fun v H1 Hs1 q1 s1 r1 => p σ H1 Hs1 q1 s1
theorem sk_if {t : TT} {u w : TS} {c : M Bool} {a b : MS} (hc : TOk K t c) (ha : SOk K u a) (hb : SOk K w b) : SOk K (tIfS t u w) (xifs c a b) := fun Fz ba G σ H Hs fl G' q e Dn p => by
  obtain ⟨x, G1, e1, e⟩ := bd_inv e
  refine hc Fz ba G σ H Hs x G1 q e1 _ fun H1 Hs1 q1 s1 => ?_
  cases x with
  | true => exact ha Fz ba G1 σ H1 Hs1 fl G' q1 e Dn (p.mono s1)
  | false => exact hb Fz ba G1 σ H1 Hs1 fl G' q1 e Dn (p.mono s1)
theorem sk_never : SOk K tNever xnever := fun Fz ba G σ H Hs fl G' q e Dn p => by cases e
theorem extB_upd {H Hs : Hp} {l : Addr} {o : HO} (s : Same Hs H) (n : Hs l = none) : ExtB l H Hs (upd H l o) Hs :=
  ⟨fun x u ne e => by rw [upd_ne ne]; exact e, Same.refl _, fun a u e => by rw [upd_ne (ne_of_none e n)]; exact s a u e, fun x u _ h => h⟩
theorem isLst_ok {G : Gam} {i : Nat} (h : isLst G i = true) : ∃ e ds, G[i]? = some e ∧ e.mu = some (.l ds) := by
  unfold isLst at h
  cases z : G[i]? with
  | none => rw [z] at h; cases h
  | some e =>
    rw [z] at h
    cases y : e.mu with
    | none => simp only [y] at h; cases h
    | some m =>
      cases m with
      | o _ _ => simp only [y] at h; cases h
      | l ds => exact ⟨e, ds, rfl, y⟩
theorem isLst_mu {G : Gam} {i : Nat} (h : isLst G i = true) : isMu G i = true := by
  obtain ⟨e, ds, h1, h2⟩ := isLst_ok h
  unfold isMu
  rw [h1]
  simp only [h2]
  rfl
theorem sk_app {i : Nat} {te : TE} {a : M R} (ha : GOk K te a) : SOk K (tDrop (tBM K "list" rAppend (tVar i) (tCons te tNil))) (xapp i a) := fun Fz ba G σ H Hs fl G' q e Dn p => by
  unfold xapp at e
  split at e
  case isFalse => cases e
  rename_i hm
  obtain ⟨l, y3, yk⟩ := q.same_slot (isLst_mu hm)
  obtain ⟨x, G1, e1, e⟩ := bd_inv e
  obtain ⟨e0, ds0, y1, y2⟩ := isLst_ok hm
  obtain ⟨_, w1, _, vs0, rfl, _⟩ := yk G H Hs e0 _ q y1 y2
  refine ⟨_, y3, .inl ⟨rfl, vs0, SqL.of w1⟩, ?_⟩
  refine ha.im q e1 fun v H1 Hs1 q1 s1 d1 => ?_
  unfold app at e
  cases h : G1[i]? with
  | none => simp only [h] at e; cases e
  | some en =>
    cases h0 : en.mu with
    | none => simp only [h, h0] at e; cases e
    | some mm =>
     cases mm with
     | o _ _ => simp only [h, h0] at e; cases e
     | l ds =>
      simp only [h, h0] at e
      split at e
      case isFalse => cases e
      rename_i hf
      cases e
      obtain ⟨_, z1, z2, vs, rfl, z3⟩ := yk _ H1 Hs1 en _ q1 h h0
      refine ⟨l, vs, v, rfl, rfl, z1, by rw [z3.len]; exact few_lt hf, ?_⟩
      exact p σ _ Hs1 (q1.mut h h0 y3 (extB_upd q1.sub z2) upd_same z2 ⟨_, rfl, z3.app (.cons d1 .nil)⟩) s1
theorem gt_name {i : Nat} : GtOk K (gName i) (tgn i) [i] := ⟨fun Fz ba G σ H Hs v d G' q r e Q k => by
  cases e
  exact k _ (q.set (x := .im d) r) List.length_set fun j hj => List.getElem?_set_ne fun z => hj (by rw [z]; exact List.mem_cons_self)⟩
structure GtsOk (K : PySem.W.Frag) (g : TGs) (f : List D → Gam → Option Gam) (js : List Nat) : Prop where
  run : ∀ Fz ba G σ H Hs vs ds G', Rel K Fz ba G σ H Hs → DRs K Hs vs ds → f ds G = some G' → ∀ Q : L2.St → Hp → Prop, (∀ σ', Rel K Fz ba G' σ' H Hs → σ'.length = σ.length → (∀ i : Nat, i ∉ js → σ'[i]? = σ[i]?) → Q σ' H) → g vs σ H Q
theorem gts_nil : GtsOk K gNil (tgs []) [] := ⟨fun Fz ba G σ H Hs vs ds G' q r e Q k => by
  cases r with
  | nil => cases e; exact ⟨rfl, k σ q rfl fun _ _ => rfl⟩
  | cons _ _ => cases e⟩
theorem gts_cons {t : TG} {u : TGs} {f : D → Gam → Option Gam} {fs : List (D → Gam → Option Gam)} {js ks : List Nat} (h : GtOk K t f js) (hs : GtsOk K u (tgs fs) ks) : GtsOk K (gCons t u) (tgs (f :: fs)) (js ++ ks) := ⟨fun Fz ba G σ H Hs vs ds G' q r e Q k => by
  cases r with
  | nil => cases e
  | @cons v vs d ds r1 r2 =>
    have e' : (match f d G with | some G1 => tgs fs ds G1 | none => none) = some G' := e
    cases h1 : f d G with
    | none => rw [h1] at e'; cases e'
    | some G1 =>
      rw [h1] at e'
      refine ⟨v, vs, rfl, h.run Fz ba G σ H Hs v d G1 q r1 h1 _ fun σ1 q1 l1 k1 => ?_⟩
      refine hs.run Fz ba G1 σ1 H Hs vs ds G' q1 r2 e' _ fun σ2 q2 l2 k2 => ?_
      exact k σ2 q2 (l2.trans l1) fun i hi => (k2 i fun z => hi (List.mem_append_right _ z)).trans (k1 i fun z => hi (List.mem_append_left _ z))⟩
theorem tgs_len : ∀ {fs : List (D → Gam → Option Gam)} {ds : List D} {G G' : Gam}, tgs fs ds G = some G' → ds.length = fs.length
  | [], [], _, _, _ => rfl
  | [], _ :: _, _, _, e => by cases e
  | _ :: _, [], _, _, e => by cases e
  | f :: fs, d :: ds, G, G', e => by
    have e' : (match f d G with | some G1 => tgs fs ds G1 | none => none) = some G' := e
    cases h1 : f d G with
    | none => rw [h1] at e'; cases e'
    | some G1 =>
      rw [h1] at e'
      exact congrArg Nat.succ (tgs_len e')
theorem gt_tup {u : TGs} {fs : List (D → Gam → Option Gam)} {js : List Nat} (h : GtsOk K u (tgs fs) js) : GtOk K (gTup K fs.length u) (tgt fs) js := ⟨fun Fz ba G σ H Hs v d G' q r e Q k => by
  cases r with
  | tup ht hd => exact ⟨_, _, rfl, same_tup q.sub ht, by rw [hd.len]; exact tgs_len e, h.run Fz ba G σ H Hs _ _ G' q hd e Q k⟩
  | _ => cases e⟩
theorem sk_while {t : TT} {u : TS} {c : M Bool} {b : MS} (fuel : Gam → Nat) (hc : TOk K t c) (hb : SOk K u b) : SOk K (tWhile t u) (xwhile fuel c b) := fun Fz ba G σ H Hs fl G' q e Dn p => by
  refine ⟨fun m σ1 H1 => ∃ G1 Hs1, Rel K Fz ba G1 σ1 H1 Hs1 ∧ Same Hs Hs1 ∧ xwhileN c b m G1 = some (fl, G'), ⟨fuel G, G, Hs, q, Same.refl _, e⟩, ?_⟩
  rintro m σ1 H1 ⟨G1, Hs1, q1, s1, e1⟩
  cases m with
  | zero => cases e1
  | succ n =>
    obtain ⟨x, G2, e2, e3⟩ := bd_inv e1
    refine hc Fz ba G1 σ1 H1 Hs1 x G2 q1 e2 _ fun H2 Hs2 q2 s2 => ?_
    cases x with
    | false => cases e3; exact p σ1 H2 Hs2 q2 (s1.trans s2)
    | true =>
      refine ⟨fun σ' H' => ∃ G3 Hs3, Rel K Fz ba G3 σ' H' Hs3 ∧ Same Hs Hs3 ∧ xwhileN c b n G3 = some (fl, G'), fun σ' H' ⟨G3, Hs3, a1, a2, a3⟩ => ⟨n, Nat.lt_succ_self n, G3, Hs3, a1, a2, a3⟩, ?_⟩
      rw [if_pos rfl] at e3
      cases hbG : b G2 with
      | none => rw [hbG] at e3; cases e3
      | some y =>
        obtain ⟨f1, G3⟩ := y
        rw [hbG] at e3
        refine hb Fz ba G2 σ1 H2 Hs2 f1 G3 q2 hbG _ ?_
        cases f1 with
        | nx => exact fun σ' H' Hs' a1 a2 => ⟨G3, Hs', a1, (s1.trans s2).trans a2, e3⟩
        | ct => exact fun σ' H' Hs' a1 a2 => ⟨G3, Hs', a1, (s1.trans s2).trans a2, e3⟩
        | bk => cases e3; exact fun σ' H' Hs' a1 a2 => p σ' H' Hs' a1 ((s1.trans s2).trans a2)
        | rt r => cases e3; exact fun v σ' H' Hs' a1 a2 a3 => p v σ' H' Hs' a1 ((s1.trans s2).trans a2) a3
theorem sk_for {w : TI} {g : TG} {u : TS} {it : M (List D)} {tg : D → Gam → Option Gam} {js : List Nat} {b : MS} (hi : IOk K w it) (hg : GtOk K g tg js) (hb : SOk K u b) : SOk K (tFor w g u) (xfor it tg b) := fun Fz ba G σ H Hs fl G' q e Dn p => by
  obtain ⟨ds, G1, e1, e⟩ := bd_inv e
  refine hi Fz ba G σ H Hs ds G1 q e1 _ fun J H1 Hs1 q1 s1 Y => ?_
  refine ⟨fun i m σ2 H2 => m = ds.length - i ∧ i ≤ ds.length ∧ ∃ G2 Hs2, Rel K Fz ba G2 σ2 H2 Hs2 ∧ Same Hs1 Hs2 ∧ xforL tg b (ds.drop i) G2 = some (fl, G'), ⟨ds.length, rfl, Nat.zero_le _, G1, Hs1, q1, Same.refl _, e⟩, ?_⟩
  rintro i m σ2 H2 ⟨rfl, hi, G2, Hs2, q2, s2, e2⟩
  by_cases hlt : i < ds.length
  · refine .inr ⟨Y.go i H2 (s2.trans q2.sub) hlt, fun σ' H' => i + 1 ≤ ds.length ∧ ∃ G3 Hs3, Rel K Fz ba G3 σ' H' Hs3 ∧ Same Hs1 Hs3 ∧ xforL tg b (ds.drop (i + 1)) G3 = some (fl, G'), fun σ' H' ⟨z, z2⟩ => ⟨ds.length - (i + 1), by omega, rfl, z, z2⟩, fun x H' y => ?_⟩
    obtain ⟨d, Hs3, d1, ex, dr⟩ := Y.yld i x H2 H' Hs2 hlt s2 q2.sub y
    have q3 := q2.ext ex
    have ed : ds.drop i = d :: ds.drop (i + 1) := by
      rw [List.drop_eq_getElem_cons hlt]
      rw [List.getElem?_eq_getElem hlt] at d1
      cases d1
      rfl
    rw [ed] at e2
    have e2' : (match tg d G2 with | none => none | some G3 => (match b G3 with | some (.nx, G4) => xforL tg b (ds.drop (i + 1)) G4 | some (.ct, G4) => xforL tg b (ds.drop (i + 1)) G4 | some (.bk, G4) => some (.nx, G4) | some (.rt r, G4) => some (.rt r, G4) | none => none)) = some (fl, G') := e2
    cases hG : tg d G2 with
    | none => rw [hG] at e2'; cases e2'
    | some G3 =>
      rw [hG] at e2'
      refine hg.run Fz ba G2 σ2 H' Hs3 x d G3 q3 dr hG _ fun σ3 q4 _ _ => ?_
      cases hbG : b G3 with
      | none => simp only [hbG] at e2'; cases e2'
      | some y =>
        obtain ⟨f1, G4⟩ := y
        simp only [hbG] at e2'
        refine hb Fz ba G3 σ3 H' Hs3 f1 G4 q4 hbG _ ?_
        cases f1 with
        | nx => exact fun σ' H5 Hs' a1 a2 => ⟨hlt, G4, Hs', a1, (s2.trans ex.b).trans a2, e2'⟩
        | ct => exact fun σ' H5 Hs' a1 a2 => ⟨hlt, G4, Hs', a1, (s2.trans ex.b).trans a2, e2'⟩
        | bk => cases e2'; exact fun σ' H5 Hs' a1 a2 => p σ' H5 Hs' a1 (((s1.trans s2).trans ex.b).trans a2)
        | rt r => cases e2'; exact fun v σ' H5 Hs' a1 a2 a3 => p v σ' H5 Hs' a1 (((s1.trans s2).trans ex.b).trans a2) a3
  · have hend : ds.length ≤ i := by omega
    rw [List.drop_eq_nil_of_le hend] at e2
    cases e2
    exact .inl ⟨Y.stop i H2 (s2.trans q2.sub) hend, p σ2 H2 Hs2 q2 (s1.trans s2)⟩
end
end Bk
namespace Bk
open PySem L2
section
variable {K : PySem.W.Frag}
theorem Yl.same {J : It} {ds : List D} {Hs Hs' : Hp} (y : Yl K J ds Hs) (s : Same Hs Hs') : Yl K J ds Hs' :=
  ⟨fun i H h => y.go i H (s.trans h), fun i H h => y.stop i H (s.trans h), fun i x H H' Hs1 hi h => y.yld i x H H' Hs1 hi (s.trans h)⟩
theorem yl_list {Hs : Hp} {a : Addr} {xs : List V} {ds : List D} (h : SqL K Hs a xs) (d : DRs K Hs xs ds) : Yl K (Itl K a) ds Hs where
  go := fun i H s hi => ⟨xs, xs[i]'(by rw [d.len]; exact hi), same_lst s h, by simp⟩
  stop := fun i H s hi => ⟨xs, same_lst s h, by rw [d.len]; exact hi⟩
  yld := fun i x H H' Hs1 _ s s1 y => by
    obtain ⟨rfl, y⟩ := y
    obtain ⟨e, e1, e2⟩ := d.ta (y xs (same_lst (s.trans s1) h))
    exact ⟨e, Hs1, e1, Ext.refl s1, e2.mono s⟩
theorem yl_tup {Hs : Hp} {a : Addr} {xs : List V} {ds : List D} (h : SqT K Hs a xs) (d : DRs K Hs xs ds) : Yl K (Itt K a) ds Hs where
  go := fun i H s hi => ⟨xs, xs[i]'(by rw [d.len]; exact hi), same_tup s h, by simp⟩
  stop := fun i H s hi => ⟨xs, same_tup s h, by rw [d.len]; exact hi⟩
  yld := fun i x H H' Hs1 _ s s1 y => by
    obtain ⟨rfl, y⟩ := y
    obtain ⟨e, e1, e2⟩ := d.ta (y xs (same_tup (s.trans s1) h))
    exact ⟨e, Hs1, e1, Ext.refl s1, e2.mono s⟩
theorem rng_len (lo : Int) (n : Nat) : (rng lo n).length = n := by simp [rng]
theorem yl_rng {Hs : Hp} {lo : Int} {n : Nat} : Yl K (Itr lo n) (rng lo n) Hs where
  go := fun i H s hi => by rw [rng_len] at hi; exact hi
  stop := fun i H s hi => by rw [rng_len] at hi; exact hi
  yld := fun i x H H' Hs1 hi s s1 y => by
    obtain ⟨rfl, rfl⟩ := y
    rw [rng_len] at hi
    exact ⟨.int (lo + (i : Int)), Hs1, by simp [rng, hi], Ext.refl s1, .int _⟩
theorem okR_inv {i : Int} (h : okR i = true) : -(2 ^ 62) ≤ i ∧ i < 2 ^ 62 := by
  unfold okR at h
  rw [Bool.and_eq_true] at h
  exact ⟨of_decide_eq_true h.1, of_decide_eq_true h.2⟩
theorem ik_range1 {ta : TA} {a : M (List D)} (ha : AOk K ta a) : IOk K (iRng1 ta) (xrange1 a) := fun Fz ba G σ H Hs ds G' q e Q k => by
  obtain ⟨xs, G1, e1, e⟩ := bd_inv e
  refine ha Fz ba G σ H Hs xs _ q e1 _ fun vs H1 Hs1 q1 s1 d => ?_
  split at e
  case h_2 => cases e
  split at e
  case isFalse => cases e
  rename_i hr
  cases e
  cases d with
  | cons d1 d2 =>
    cases d2
    cases d1
    exact ⟨_, rfl, (okR_inv hr).1, (okR_inv hr).2, k _ H1 Hs1 q1 s1 yl_rng⟩
theorem asL_ok {H : Hp} {v : V} {d : D} {ds : List D} (h : DR K H v d) (e : asL d = some ds) : ∃ a xs, v = .ref a ∧ SqL K H a xs ∧ DRs K H xs ds := by
  cases h with
  | lst hl hd => cases e; exact ⟨_, _, rfl, SqL.of hl, hd⟩
  | frz hl hd => cases e; exact ⟨_, _, rfl, hl, hd⟩
  | _ => cases e
theorem zip_get {α β : Type} : ∀ {xs : List α} {ys : List β} {i : Nat} {x : α} {y : β}, xs[i]? = some x → ys[i]? = some y → (xs.zip ys)[i]? = some (x, y)
  | [], _, _, _, _, h, _ => by simp at h
  | _ :: _, [], _, _, _, _, h => by simp at h
  | a :: xs, b :: ys, 0, _, _, h1, h2 => by simp at h1 h2; subst h1; subst h2; rfl
  | a :: xs, b :: ys, i + 1, _, _, h1, h2 => by
    simp only [List.zip_cons_cons, List.getElem?_cons_succ] at h1 h2 ⊢
    exact zip_get h1 h2
theorem enum_len : ∀ (k : Nat) (ds : List D), (enumD k ds).length = ds.length
  | _, [] => rfl
  | k, d :: ds => congrArg Nat.succ (enum_len (k + 1) ds)
theorem enum_get : ∀ {k : Nat} {ds : List D} {i : Nat} {d : D}, ds[i]? = some d → (enumD k ds)[i]? = some (.tup [.int ((k + i : Nat) : Int), d])
  | _, [], _, _, h => by simp at h
  | k, e :: ds, 0, _, h => by simp at h; subst h; rfl
  | k, e :: ds, i + 1, _, h => by
    simp only [List.getElem?_cons_succ] at h
    have z := enum_get (k := k + 1) h
    show (enumD (k + 1) ds)[i]? = _
    rw [z, show k + 1 + i = k + (i + 1) by omega]
theorem yl_enum {Hs : Hp} {a : Addr} {xs : List V} {ds : List D} (ha : SqL K Hs a xs) (da : DRs K Hs xs ds) : Yl K (Ite K a) (enumD 0 ds) Hs where
  go := fun i H s hi => by
    rw [enum_len] at hi
    exact ⟨xs, xs[i]'(by rw [da.len]; omega), same_lst s ha, by simp⟩
  stop := fun i H s hi => by
    rw [enum_len] at hi
    exact ⟨xs, same_lst s ha, by rw [da.len]; omega⟩
  yld := fun i x H H' Hs1 _ s s1 y => by
    obtain ⟨T, x1, rfl, hT, rfl, h1⟩ := y
    obtain ⟨d1, e1, r1⟩ := da.ta (h1 xs (same_lst (s.trans s1) ha))
    have ex : Ext H Hs1 (upd H T (.tup [.int (i : Nat), x1])) (upd Hs1 T (.tup [.int (i : Nat), x1])) := Ext.new s1 hT
    refine ⟨.tup [.int (i : Nat), d1], _, ?_, ex, .tup (SqT.of upd_same) (.cons (.int _) (.cons (r1.mono (s.trans ex.b)) .nil))⟩
    rw [enum_get e1, Nat.zero_add]
theorem Rel.wiped {Fz : Hp} {ba : Nat → Addr} {G : Gam} {σ : L2.St} {H Hs : Hp} (q : Rel K Fz ba G σ H Hs) : ∀ vs : List Nat, Rel K Fz ba (wipeG G vs) (wipe σ vs) H Hs
  | [] => q
  | v :: vs => (Rel.wiped q vs).forget v
theorem wipe_get {σ : L2.St} {i : Nat} : ∀ {vs : List Nat}, i ∉ vs → (wipe σ vs)[i]? = σ[i]?
  | [], _ => rfl
  | v :: vs, h => by
    have h1 : v ≠ i := fun z => h (by rw [z]; exact List.mem_cons_self)
    show ((wipe σ vs).set v none)[i]? = _
    rw [List.getElem?_set_ne h1]
    exact wipe_get fun z => h (List.mem_cons_of_mem _ z)
theorem wipe_in {σ : L2.St} {i : Nat} (hl : i < σ.length) : ∀ {vs : List Nat}, i ∈ vs → (wipe σ vs)[i]? = some none
  | v :: vs, h => by
    show ((wipe σ vs).set v none)[i]? = _
    by_cases z : v = i
    · subst z
      rw [List.getElem?_set_self (by rw [wipe_length]; exact hl)]
    · rw [List.getElem?_set_ne z]
      rcases List.mem_cons.mp h with z2 | h2
      · exact absurd z2.symm z
      · exact wipe_in hl h2
/-- slots outside of vs alike: wiped they are the same -/
theorem wipe_eq {σ τ : L2.St} {vs : List Nat} (hl : τ.length = σ.length) (h : ∀ i : Nat, i ∉ vs → τ[i]? = σ[i]?) : wipe τ vs = wipe σ vs := by
  refine List.ext_getElem? fun i => ?_
  by_cases hi : i ∈ vs
  · by_cases hlt : i < σ.length
    · rw [wipe_in hlt hi, wipe_in (by rw [hl]; exact hlt) hi]
    · rw [List.getElem?_eq_none (by rw [wipe_length, hl]; omega), List.getElem?_eq_none (by rw [wipe_length]; omega)]
  · rw [wipe_get hi, wipe_get hi]
    exact h i hi
theorem unw_len (G1 G2 : Gam) : ∀ vs : List Nat, (unw G1 G2 vs).length = G2.length
  | [] => rfl
  | v :: vs => by
    show ((unw G1 G2 vs).set v _).length = _
    rw [List.length_set]
    exact unw_len G1 G2 vs
theorem unw_out {G1 G2 : Gam} {i : Nat} : ∀ {vs : List Nat}, i ∉ vs → (unw G1 G2 vs)[i]? = G2[i]?
  | [], _ => rfl
  | v :: vs, h => by
    have h1 : v ≠ i := fun z => h (by rw [z]; exact List.mem_cons_self)
    show ((unw G1 G2 vs).set v _)[i]? = _
    rw [List.getElem?_set_ne h1]
    exact unw_out fun z => h (List.mem_cons_of_mem _ z)
theorem unw_in {G1 G2 : Gam} {i : Nat} (hl : G2.length = G1.length) : ∀ {vs : List Nat}, i ∈ vs → (unw G1 G2 vs)[i]? = G1[i]?
  | v :: vs, h => by
    show ((unw G1 G2 vs).set v (G1.getD v .un))[i]? = _
    by_cases z : v = i
    · subst z
      by_cases hlt : v < G1.length
      · rw [List.getElem?_set_self (by rw [unw_len, hl]; exact hlt), List.getElem?_eq_getElem hlt, List.getD_eq_getElem?_getD, List.getElem?_eq_getElem hlt]
        rfl
      · rw [List.getElem?_eq_none (by rw [List.length_set, unw_len, hl]; omega), List.getElem?_eq_none (by omega)]
    · rw [List.getElem?_set_ne z]
      rcases List.mem_cons.mp h with z2 | h2
      · exact absurd z2.symm z
      · exact unw_in hl h2
theorem noMu_ok {G : Gam} {vs : List Nat} (h : noMu G vs = true) {i : Nat} {e : Ent} (hi : i ∈ vs) (g : G[i]? = some e) : e.mu = none := by
  unfold noMu at h
  rw [List.all_eq_true] at h
  have z := h i hi
  rw [g] at z
  simpa using z
/-- behind a block: its own slots as they were -/
theorem Rel.unwipe {Fz : Hp} {ba : Nat → Addr} {G1 G2 : Gam} {σ : L2.St} {H1 Hs1 H2 Hs2 : Hp} {vs : List Nat} (q1 : Rel K Fz ba G1 σ H1 Hs1) (q2 : Rel K Fz ba G2 (wipe σ vs) H2 Hs2) (s : Same Hs1 Hs2) (nm : noMu G1 vs = true) : Rel K Fz ba (unw G1 G2 vs) σ H2 Hs2 := by
  have hl : G2.length = G1.length := by rw [← q1.len, ← q2.len, wipe_length]
  have mo : ∀ {i : Nat} {e : Ent}, (unw G1 G2 vs)[i]? = some e → e.mu ≠ none → i ∉ vs ∧ G2[i]? = some e := fun {i e} h m => by
    by_cases hi : i ∈ vs
    · rw [unw_in hl hi] at h
      exact absurd (noMu_ok nm hi h) m
    · rw [unw_out hi] at h
      exact ⟨hi, h⟩
  refine ⟨q2.sub, q2.fz, by rw [unw_len, hl]; exact q1.len, fun i d h => ?_, fun i e ds h h0 => ?_, fun i j e e' l h1 h2 m1 m2 t1 t2 => ?_, fun i ds h => ?_⟩
  · by_cases hi : i ∈ vs
    · rw [unw_in hl hi] at h
      obtain ⟨v, a1, a2⟩ := q1.im i d h
      exact ⟨v, a1, a2.mono s⟩
    · rw [unw_out hi] at h
      obtain ⟨v, a1, a2⟩ := q2.im i d h
      exact ⟨v, by rw [← wipe_get hi]; exact a1, a2⟩
  · obtain ⟨hi, h⟩ := mo h (by rw [h0]; simp)
    obtain ⟨l, ws, a1, a2⟩ := q2.mu i e ds h h0
    exact ⟨l, ws, by rw [← wipe_get hi]; exact a1, a2⟩
  · obtain ⟨hi, h1⟩ := mo h1 m1
    obtain ⟨hj, h2⟩ := mo h2 m2
    exact q2.dj i j e e' l h1 h2 m1 m2 (by rw [wipe_get hi]; exact t1) (by rw [wipe_get hj]; exact t2)
  · obtain ⟨hi, h⟩ := mo h (by simp [Ent.mu])
    have z := q2.bx i ds h
    rw [wipe_get hi] at z
    exact z
/-- a hidden object more -/
theorem Rel.hide {Fz : Hp} {ba : Nat → Addr} {G : Gam} {σ : L2.St} {H Hs : Hp} (q : Rel K Fz ba G σ H Hs) {p : Addr} {o : HO} (h : H p = none) : Rel K (upd Fz p o) ba G σ (upd H p o) Hs := by
  refine ⟨q.sub.trans (same_new h), fun a u e => ?_, q.len, q.im, fun i e ds g g0 => ?_, q.dj, q.bx⟩
  · by_cases z : a = p
    · subst z
      rw [upd_same] at e ⊢
      exact ⟨e, none_sub q.sub h⟩
    · rw [upd_ne z] at e ⊢
      exact q.fz a u e
  · obtain ⟨l, vs, a1, a2, a3, a4, a5⟩ := q.mu i e ds g g0
    have ne : l ≠ p := ne_of_none a2 h
    exact ⟨l, vs, a1, by rw [upd_ne ne]; exact a2, a3, by rw [upd_ne ne]; exact a4, a5⟩
/-- the hidden object is another -/
theorem Rel.rehide {Fz : Hp} {ba : Nat → Addr} {G : Gam} {σ : L2.St} {H Hs : Hp} {p : Addr} {o o' : HO} (q : Rel K (upd Fz p o) ba G σ H Hs) : Rel K (upd Fz p o') ba G σ (upd H p o') Hs := by
  obtain ⟨hp, hsp⟩ := q.fz p o upd_same
  refine ⟨fun a u e => ?_, fun a u e => ?_, q.len, q.im, fun i e ds g g0 => ?_, q.dj, q.bx⟩
  · rw [upd_ne (ne_of_none e hsp)]
    exact q.sub a u e
  · by_cases z : a = p
    · subst z
      rw [upd_same] at e ⊢
      exact ⟨e, hsp⟩
    · rw [upd_ne z] at e ⊢
      exact q.fz a u (by rw [upd_ne z]; exact e)
  · obtain ⟨l, vs, a1, a2, a3, a4, a5⟩ := q.mu i e ds g g0
    have ne : l ≠ p := by
      intro z
      subst z
      rw [upd_same] at a4
      cases a4
    rw [upd_ne ne] at a4
    exact ⟨l, vs, a1, by rw [upd_ne ne]; exact a2, a3, by rw [upd_ne ne]; exact a4, a5⟩
/-- no longer hidden, not owned either -/
theorem Rel.unhide {Fz : Hp} {ba : Nat → Addr} {G : Gam} {σ : L2.St} {H Hs : Hp} {p : Addr} {o : HO} (q : Rel K (upd Fz p o) ba G σ H Hs) (hf : Fz p = none) : Rel K Fz ba G σ H Hs := by
  refine ⟨q.sub, fun a u e => ?_, q.len, q.im, fun i e ds g g0 => ?_, q.dj, q.bx⟩
  · exact q.fz a u (by rw [upd_ne (ne_of_none e hf)]; exact e)
  · obtain ⟨l, vs, a1, a2, a3, a4, a5⟩ := q.mu i e ds g g0
    refine ⟨l, vs, a1, a2, a3, ?_, a5⟩
    cases z : Fz l with
    | none => rfl
    | some u =>
      have ne : l ≠ p := ne_of_none z hf
      rw [upd_ne ne, z] at a4
      cases a4
theorem gk_lc {w : TI} {g : TG} {t : TT} {te : TE} {it : M (List D)} {tg : D → Gam → Option Gam} {js vs : List Nat} {c : M Bool} {a : M R} (hi : IOk K w it) (hg : GtOk K g tg js) (hc : TOk K t c) (ha : GOk K te a) (hj : ∀ j ∈ js, j ∈ vs) :
    GOk K (tLc w g t te vs) (xlc it tg c a vs) := fun Fz ba G σ H Hs res G' q e Q k => by
  obtain ⟨ds, G1, e1, e⟩ := bd_inv e
  split at e
  case isFalse => cases e
  rename_i nm
  obtain ⟨out, G2, e2, e⟩ := bd_inv e
  split at e
  case isFalse => cases e
  rename_i hf
  cases e
  refine hi Fz ba G σ H Hs ds _ q e1 _ fun J H1 Hs1 q1 s1 Y p hp => ?_
  have hfp : Fz p = none := by
    cases z : Fz p with
    | none => rfl
    | some o =>
      obtain ⟨z1, _⟩ := q1.fz p o z
      rw [hp] at z1
      cases z1
  have q1w := (q1.wiped vs).hide (o := .lst []) hp
  refine ⟨fun i m H2 => m = ds.length - i ∧ i ≤ ds.length ∧ ∃ G3 Hs3 acc ad more, Rel K (upd Fz p (.lst acc)) ba G3 (wipe σ vs) H2 Hs3 ∧ Same Hs1 Hs3 ∧ DRs K Hs3 acc ad ∧ xlcL tg c a vs (ds.drop i) G3 = some (more, G2) ∧ ad ++ more = out,
    ⟨ds.length, rfl, Nat.zero_le _, wipeG G1 vs, Hs1, [], [], out, q1w, Same.refl _, .nil, e2, rfl⟩, ?_⟩
  rintro i m H2 ⟨rfl, hi2, G3, Hs3, acc, ad, more, q3, s3, da, e3, eo⟩
  by_cases hlt : i < ds.length
  · refine .inr ⟨Y.go i H2 (s3.trans q3.sub) hlt, fun H' => i + 1 ≤ ds.length ∧ ∃ G4 Hs4 acc ad more, Rel K (upd Fz p (.lst acc)) ba G4 (wipe σ vs) H' Hs4 ∧ Same Hs1 Hs4 ∧ DRs K Hs4 acc ad ∧ xlcL tg c a vs (ds.drop (i + 1)) G4 = some (more, G2) ∧ ad ++ more = out,
      fun H' ⟨z, z2⟩ => ⟨ds.length - (i + 1), by omega, rfl, z, z2⟩, fun x H' y => ?_⟩
    obtain ⟨d, Hs4, d1, ex, dr⟩ := Y.yld i x H2 H' Hs3 hlt s3 q3.sub y
    have q4 := q3.ext ex
    have ed : ds.drop i = d :: ds.drop (i + 1) := by
      rw [List.drop_eq_getElem_cons hlt]
      rw [List.getElem?_eq_getElem hlt] at d1
      cases d1
      rfl
    rw [ed] at e3
    unfold xlcL at e3
    cases hG : tg d G3 with
    | none => rw [hG] at e3; cases e3
    | some G4 =>
      rw [hG] at e3
      refine hg.run _ ba G3 _ H' Hs4 x d G4 q4 dr hG _ fun σ5 q5 l5 k5 => ?_
      have hlen : σ5.length = σ.length := by rw [l5, wipe_length]
      have hw : wipe σ5 vs = wipe σ vs := by
        have z := wipe_eq (σ := wipe σ vs) (τ := σ5) (vs := vs) (by rw [wipe_length]; exact hlen) fun j hj' => k5 j fun z => hj' (hj j z)
        rw [z]
        exact wipe_eq (wipe_length σ vs) fun j hj' => wipe_get hj'
      refine ⟨hw, ?_⟩
      obtain ⟨b, G5, e5, e6⟩ := bd_inv e3
      refine hc _ ba G4 σ5 H' Hs4 b G5 q5 e5 _ fun H5 Hs5 q6 s6 => ?_
      cases b with
      | true =>
        obtain ⟨r, G6, e7, e8⟩ := bd_inv (show bd (a G5) _ = _ from e6)
        obtain ⟨out2, G7, e9, e10⟩ := bd_inv e8
        cases e10
        rw [if_pos rfl]
        refine ha.im q6 e7 fun v H6 Hs6 q7 s7 d7 => ?_
        obtain ⟨f1, f2⟩ := q7.fz p _ upd_same
        have q8 := (q7.rehide (o' := .lst (acc ++ [v]))).wiped vs
        rw [hw] at q8
        refine ⟨acc, f1, ?_, hlt, _, Hs6, _, ad ++ [r.d], out2, q8, ((s3.trans ex.b).trans s6).trans s7, (da.mono ((ex.b.trans s6).trans s7)).app (.cons d7 .nil), e9, ?_⟩
        · have z1 := da.len
          have z2 : ad.length ≤ out.length := by rw [← eo, List.length_append]; omega
          exact Nat.lt_of_le_of_lt (by omega) (few_lt hf)
        · rw [List.append_assoc]
          exact eo
      | false =>
        rw [if_neg Bool.false_ne_true] at e6 ⊢
        have q8 := q6.wiped vs
        rw [hw] at q8
        exact ⟨hlt, _, Hs5, acc, ad, more, q8, (s3.trans ex.b).trans s6, da.mono (ex.b.trans s6), e6, eo⟩
  · have hend : ds.length ≤ i := by omega
    rw [List.drop_eq_nil_of_le hend] at e3
    cases e3
    rw [List.append_nil] at eo
    subst eo
    obtain ⟨f1, f2⟩ := q3.fz p _ upd_same
    refine .inl ⟨Y.stop i H2 (s3.trans q3.sub) hend, k _ H2 Hs3 (q1.unwipe (q3.unhide hfp) s3 nm) (s1.trans s3) ⟨p, _, rfl, f1, f2, hfp, ⟨acc, rfl, da⟩, fun j e' g m z => ?_⟩⟩
    have q9 := q1.unwipe (q3.unhide hfp) s3 nm
    by_cases hjv : j ∈ vs
    · have z1 := q1.len
      have z2 := q3.len
      rw [wipe_length, z1] at z2
      rw [unw_in (G1 := G1) z2.symm hjv] at g
      exact m (noMu_ok nm hjv g)
    · rw [unw_out hjv] at g
      obtain ⟨ds', hd'⟩ : ∃ ds', e'.mu = some ds' := by
        cases y : e'.mu with
        | none => exact absurd y m
        | some ds' => exact ⟨ds', rfl⟩
      obtain ⟨l, ws, a1, a2, a3, a4, a5⟩ := q3.mu j e' ds' g hd'
      rw [wipe_get hjv, z] at a1
      cases a1
      rw [upd_same] at a4
      cases a4
end
end Bk
namespace Bk
open PySem L2
def opAdd : D → D → Option R
  | .int i, .int j => some (.im (.int (i + j)))
  | .str x, .str y => if few (x.length + y.length) then some (.im (.str (x ++ y))) else none
  | .lst xs, .lst ys => if few (xs.length + ys.length) then some (.ol (xs ++ ys)) else none
  | _, _ => none
def opSub : D → D → Option R
  | .int i, .int j => some (.im (.int (i - j)))
  | _, _ => none
def okMul (i j : Int) : Bool := decide (i.natAbs.log2 + j.natAbs.log2 < 1000000)
theorem okMul_ok {i j : Int} (h : okMul i j = true) : CMulW i j := by
  unfold okMul at h
  exact (of_decide_eq_true h : i.natAbs.log2 + j.natAbs.log2 < 1000000)
def opMul : D → D → Option R
  | .int i, .int j => if okMul i j then some (.im (.int (i * j))) else none
  | .lst xs, .int k => if okR k && few (xs.length * k.toNat) then some (.ol (List.replicate k.toNat xs).flatten) else none
  | _, _ => none
def okDiv (j : Int) : Bool := decide (j ≠ 0) && decide (j.natAbs.log2 < 9000)
def opFdiv : D → D → Option R
  | .int i, .int j => if okDiv j then some (.im (.int (i.fdiv j))) else none
  | _, _ => none
def opMod : D → D → Option R
  | .int i, .int j => if decide (j ≠ 0) then some (.im (.int (i.fmod j))) else none
  | _, _ => none
def cmp (p : Int → Int → Bool) : D → D → Option R
  | .int i, .int j => some (.im (.bl (p i j)))
  | _, _ => none
def opLt : D → D → Option R := cmp fun i j => decide (i < j)
def opLe : D → D → Option R := cmp fun i j => decide (i ≤ j)
def opGt : D → D → Option R := cmp fun i j => decide (j < i)
def opGe : D → D → Option R := cmp fun i j => decide (j ≤ i)
mutual
def toPy : D → Option PyData
  | .non => some .none
  | .bl b => some (.bool b)
  | .int i => some (.int i)
  | .str x => some (.str x)
  | .lst xs => (toPys xs).map .list
  | .frz xs => (toPys xs).map .list
  | .tup xs => (toPys xs).map .tuple
  | .obj _ _ => none
  | .ty _ => none
  | .cl _ => none
  | .dic _ _ => none
def toPys : List D → Option (List PyData)
  | [] => some []
  | x :: xs => match toPy x, toPys xs with
    | some p, some ps => some (p :: ps)
    | _, _ => none
end
def eqD (a b : D) : Option Bool := match a, b with
  | .int i, .int j => some (decide (i = j))
  | .str x, .str y => some (decide (x = y))
  | a, b => match toPy a, toPy b with
    | some p, some q => if SeqAt.shaped p && SeqAt.shaped q then some (PyData.eqv p q) else none
    | _, _ => none
def opEq (a b : D) : Option R := match eqD a b with
  | some k => some (.im (.bl k))
  | none => none
def opNe (a b : D) : Option R := match eqD a b with
  | some k => some (.im (.bl (!k)))
  | none => none
def isN : D → Bool
  | .non => true
  | _ => false
def isD : D → D → Option Bool
  | a, .non => some (isN a)
  | .bl a, .bl b => some (decide (a = b))
  | _, _ => none
def opIs (a b : D) : Option R := match isD a b with
  | some k => some (.im (.bl k))
  | none => none
def opIsNot (a b : D) : Option R := match isD a b with
  | some k => some (.im (.bl (!k)))
  | none => none
def opIx : D → D → Option R
  | .lst xs, .int k => (atI xs k).map .im
  | .frz xs, .int k => (atI xs k).map .im
  | .tup xs, .int k => (atI xs k).map .im
  | .str x, .int k => if few x.length then (atI x.cps.toList k).map fun c => .im (.str ⟨#[c]⟩) else none
  | _, _ => none
def unNeg : D → Option R
  | .int i => some (.im (.int (-i)))
  | _ => none
def rAddA : R2 := fun x y H Q => rI0 (fun i j => .int (i + j)) x y H Q ∨ (∃ i j, x = .str i ∧ y = .str j ∧ i.length + j.length ≤ sizeLine ∧ Q (.str (i ++ j)) H) ∨ rCat x y H Q
theorem op_addA {X : Cx} : OpR X (binaryOp .Add) rAddA := op_add.or (op_add_str.or op_cat)
def rMulA : R2 := fun x y H Q => rI CMulW (fun i j => .int (i * j)) x y H Q ∨ rRep x y H Q
theorem op_mulA {X : Cx} : OpR X (binaryOp .Mult) rMulA := op_mulW.or op_rep
def rFdivA : R2 := rI (fun _ j => j ≠ 0 ∧ j.natAbs.log2 < 9000) fun i j => .int (i.fdiv j)
theorem op_fdivA {X : Cx} : OpR X (binaryOp .FloorDiv) rFdivA := opI fun _ _ _ _ _ _ _ hc q => PyProof.Rows.floordiv_int hc.1 q (.inl (PyProof.noPylong_of_log2 hc.2))
def rModA : R2 := rI (fun _ j => j ≠ 0) fun i j => .int (i.fmod j)
theorem op_modA {X : Cx} : OpR X (binaryOp .Mod) rModA := op_modN
def rSubA : R2 := rI0 fun i j => .int (i - j)
theorem op_subA {X : Cx} : OpR X (binaryOp .Sub) rSubA := op_sub
def rIsA : R2 := fun x y H Q => (y = .non ∧ Q (.bl (decide (x = .non))) H) ∨ rIsB x y H Q
theorem op_isA {X : Cx} : OpR X (compareOp .Is) rIsA := op_isN.or op_isBl
def rIsNotA : R2 := fun x y H Q => (y = .non ∧ Q (.bl (!decide (x = .non))) H) ∨ rNotB x y H Q
theorem op_isNotA {X : Cx} : OpR X (compareOp .IsNot) rIsNotA := op_notN.or op_notBl
section
variable {K : PySem.W.Frag}
theorem od_add : OpD K rAddA opAdd := fun H Hs x y dx dy res s hx hy e Q k => by
  unfold opAdd at e
  split at e
  · cases e
    cases hx; cases hy
    exact .inl ⟨_, _, rfl, rfl, k _ H Hs (Ext.refl s) (.int _)⟩
  · split at e
    case isFalse => cases e
    rename_i hf
    cases e
    cases hx; cases hy
    exact .inr (.inl ⟨_, _, rfl, rfl, few_ok hf, k _ H Hs (Ext.refl s) (.str _)⟩)
  · split at e
    case isFalse => cases e
    rename_i hf
    cases e
    cases hx with
    | lst h1 d1 =>
      cases hy with
      | lst h2 d2 =>
        exact .inr (.inr ⟨_, _, _, _, rfl, rfl, s _ _ h1, s _ _ h2, by rw [d1.len, d2.len]; exact few_ok hf, fun p hp =>
          k _ _ Hs (Ext.hid s hp) ⟨p, _, rfl, hp, upd_same, none_sub s hp, _, rfl, d1.app d2⟩⟩)
  · cases e
theorem od_sub : OpD K rSubA opSub := fun H Hs x y dx dy res s hx hy e Q k => by
  unfold opSub at e
  split at e
  case h_2 => cases e
  cases e
  cases hx; cases hy
  exact ⟨_, _, rfl, rfl, k _ H Hs (Ext.refl s) (.int _)⟩
theorem od_mul : OpD K rMulA opMul := fun H Hs x y dx dy res s hx hy e Q k => by
  unfold opMul at e
  split at e
  · split at e
    case isFalse => cases e
    rename_i hf
    cases e
    cases hx; cases hy
    exact .inl ⟨_, _, rfl, rfl, okMul_ok hf, k _ H Hs (Ext.refl s) (.int _)⟩
  · split at e
    case isFalse => cases e
    rename_i hf
    rw [Bool.and_eq_true] at hf
    cases e
    cases hx with
    | lst h1 d1 =>
      cases hy
      obtain ⟨z1, z2⟩ : -(2 ^ 62) ≤ _ ∧ _ < 2 ^ 62 := okR_inv hf.1
      exact .inr ⟨_, _, _, rfl, rfl, s _ _ h1, by omega, by omega, by rw [d1.len]; exact few_ok hf.2, fun p hp =>
        k _ _ Hs (Ext.hid s hp) ⟨p, _, rfl, hp, upd_same, none_sub s hp, _, rfl, d1.rep _⟩⟩
  · cases e
theorem od_fdiv : OpD K rFdivA opFdiv := fun H Hs x y dx dy res s hx hy e Q k => by
  unfold opFdiv at e
  split at e
  case h_2 => cases e
  split at e
  case isFalse => cases e
  rename_i hf
  unfold okDiv at hf
  rw [Bool.and_eq_true] at hf
  cases e
  cases hx; cases hy
  exact ⟨_, _, rfl, rfl, ⟨of_decide_eq_true hf.1, of_decide_eq_true hf.2⟩, k _ H Hs (Ext.refl s) (.int _)⟩
theorem od_mod : OpD K rModA opMod := fun H Hs x y dx dy res s hx hy e Q k => by
  unfold opMod at e
  split at e
  case h_2 => cases e
  split at e
  case isFalse => cases e
  rename_i hf
  cases e
  cases hx; cases hy
  exact ⟨_, _, rfl, rfl, of_decide_eq_true hf, k _ H Hs (Ext.refl s) (.int _)⟩
theorem od_cmp {p : Int → Int → Bool} : OpD K (rI0 fun i j => .bl (p i j)) (cmp p) := fun H Hs x y dx dy res s hx hy e Q k => by
  unfold cmp at e
  split at e
  case h_2 => cases e
  cases e
  cases hx; cases hy
  exact ⟨_, _, rfl, rfl, k _ H Hs (Ext.refl s) (.bl _)⟩
theorem od_lt : OpD K (rI0 fun i j => .bl (decide (i < j))) opLt := od_cmp
theorem od_le : OpD K (rI0 fun i j => .bl (decide (i ≤ j))) opLe := od_cmp
theorem od_gt : OpD K (rI0 fun i j => .bl (decide (j < i))) opGt := od_cmp
theorem od_ge : OpD K (rI0 fun i j => .bl (decide (j ≤ i))) opGe := od_cmp
mutual
theorem toPy_ok {H : Hp} : ∀ {d : D} {v : V} {p : PyData}, DR K H v d → toPy d = some p → Dp K H v p
  | .non, _, _, h, e => by cases h; unfold toPy at e; cases e; exact .non
  | .bl b, _, _, h, e => by cases h; unfold toPy at e; cases e; exact .bl b
  | .int i, _, _, h, e => by cases h; unfold toPy at e; cases e; exact .int i
  | .str x, _, _, h, e => by cases h; unfold toPy at e; cases e; exact .str x
  | .lst xs, _, _, h, e => by
    unfold toPy at e
    cases z : toPys xs with
    | none => rw [z] at e; cases e
    | some ps =>
      rw [z] at e
      cases e
      cases h with
      | lst h1 d1 => exact .lst (SqL.of h1) (toPys_ok d1 z)
  | .frz xs, _, _, h, e => by
    unfold toPy at e
    cases z : toPys xs with
    | none => rw [z] at e; cases e
    | some ps =>
      rw [z] at e
      cases e
      cases h with
      | frz h1 d1 => exact .lst h1 (toPys_ok d1 z)
  | .tup xs, _, _, h, e => by
    unfold toPy at e
    cases z : toPys xs with
    | none => rw [z] at e; cases e
    | some ps =>
      rw [z] at e
      cases e
      cases h with
      | tup h1 d1 => exact .tup h1 (toPys_ok d1 z)
  | .obj _ _, _, _, _, e => by unfold toPy at e; cases e
  | .ty _, _, _, _, e => by unfold toPy at e; cases e
  | .cl _, _, _, _, e => by unfold toPy at e; cases e
  | .dic _ _, _, _, _, e => by unfold toPy at e; cases e
theorem toPys_ok {H : Hp} : ∀ {ds : List D} {vs : List V} {ps : List PyData}, DRs K H vs ds → toPys ds = some ps → DpAll K H vs ps
  | [], _, _, h, e => by cases h; unfold toPys at e; cases e; exact .nil
  | d :: ds, _, _, h, e => by
    unfold toPys at e
    split at e
    case h_2 => cases e
    rename_i h1 h2
    cases e
    cases h with
    | cons a b => exact .cons (toPy_ok a h1) (toPys_ok b h2)
end
theorem shaped_int (i : Int) : SeqAt.shaped (.int i) = true := by
  unfold SeqAt.shaped
  simp [PyData.canLay0, PyData.depth]
theorem eqD_ok {H : Hp} {x y : V} {a b : D} {k : Bool} (hx : DR K H x a) (hy : DR K H y b) (e : eqD a b = some k) :
    (∃ p q, Dp K H x p ∧ Dp K H y q ∧ SeqAt.shaped p = true ∧ SeqAt.shaped q = true ∧ PyData.eqv p q = k) ∨ (scal x y = true ∧ decide (x = y) = k) := by
  unfold eqD at e
  split at e
  · cases e
    cases hx; cases hy
    exact .inl ⟨_, _, .int _, .int _, shaped_int _, shaped_int _, by simp only [PyData.eqv]; exact Bool.beq_eq_decide_eq _ _⟩
  · cases e
    cases hx; cases hy
    exact .inr ⟨rfl, by simp⟩
  · split at e
    case h_2 => cases e
    rename_i h1 h2
    split at e
    case isFalse => cases e
    rename_i hf
    rw [Bool.and_eq_true] at hf
    cases e
    exact .inl ⟨_, _, toPy_ok hx h1, toPy_ok hy h2, hf.1, hf.2, rfl⟩
def rEqA (K : PySem.W.Frag) : R2 := fun x y H Q => rEqD K x y H Q ∨ rEq x y H Q
def rNeA (K : PySem.W.Frag) : R2 := fun x y H Q => rNeD K x y H Q ∨ rNe x y H Q
theorem op_eqA {X : Cx} (hu : X.A.units + 64 < cLine) : OpR X (compareOp .Eq) (rEqA X.K) := (op_eqD hu).or op_eq
theorem op_neA {X : Cx} (hu : X.A.units + 64 < cLine) : OpR X (compareOp .NotEq) (rNeA X.K) := (op_neD hu).or op_ne
theorem dp_mono {H H' : Hp} (s : Same H H') {x : V} {d : D} {p : PyData} (h : DR K H x d) (e : toPy d = some p) : Dp K H' x p := toPy_ok (h.mono s) e
theorem od_eq : OpD K (rEqA K) opEq := fun H Hs x y dx dy res s hx hy e Q k => by
  unfold opEq at e
  cases z : eqD dx dy with
  | none => rw [z] at e; cases e
  | some b =>
    rw [z] at e
    cases e
    rcases eqD_ok (hx.mono s) (hy.mono s) z with ⟨p, q, a1, a2, a3, a4, a5⟩ | ⟨a1, a2⟩
    · exact .inl ⟨p, q, a1, a2, a3, a4, by rw [a5]; exact k _ H Hs (Ext.refl s) (.bl _)⟩
    · exact .inr ⟨a1, by rw [a2]; exact k _ H Hs (Ext.refl s) (.bl _)⟩
theorem od_ne : OpD K (rNeA K) opNe := fun H Hs x y dx dy res s hx hy e Q k => by
  unfold opNe at e
  cases z : eqD dx dy with
  | none => rw [z] at e; cases e
  | some b =>
    rw [z] at e
    cases e
    rcases eqD_ok (hx.mono s) (hy.mono s) z with ⟨p, q, a1, a2, a3, a4, a5⟩ | ⟨a1, a2⟩
    · exact .inl ⟨p, q, a1, a2, a3, a4, by rw [a5]; exact k _ H Hs (Ext.refl s) (.bl _)⟩
    · exact .inr ⟨a1, by rw [a2]; exact k _ H Hs (Ext.refl s) (.bl _)⟩
theorem isN_ok {H : Hp} {x : V} {d : D} (h : DR K H x d) : decide (x = .non) = isN d := by
  cases h <;> simp [isN]
theorem od_is : OpD K rIsA opIs := fun H Hs x y dx dy res s hx hy e Q k => by
  unfold opIs at e
  cases z : isD dx dy with
  | none => rw [z] at e; cases e
  | some b =>
    rw [z] at e
    cases e
    unfold isD at z
    split at z
    · cases z
      cases hy
      exact .inl ⟨rfl, by rw [isN_ok hx]; exact k _ H Hs (Ext.refl s) (.bl _)⟩
    · cases z
      cases hx; cases hy
      exact .inr ⟨_, _, rfl, rfl, k _ H Hs (Ext.refl s) (.bl _)⟩
    · cases z
theorem od_isNot : OpD K rIsNotA opIsNot := fun H Hs x y dx dy res s hx hy e Q k => by
  unfold opIsNot at e
  cases z : isD dx dy with
  | none => rw [z] at e; cases e
  | some b =>
    rw [z] at e
    cases e
    unfold isD at z
    split at z
    · cases z
      cases hy
      exact .inl ⟨rfl, by rw [isN_ok hx]; exact k _ H Hs (Ext.refl s) (.bl _)⟩
    · cases z
      cases hx; cases hy
      exact .inr ⟨_, _, rfl, rfl, k _ H Hs (Ext.refl s) (.bl _)⟩
    · cases z
theorem od_ix : OpD K (rIx K) opIx := fun H Hs x y dx dy res s hx hy e Q k => by
  have fin : ∀ {vs : List V} {ds : List D} {i : Int}, DRs K Hs vs ds → (atI ds i).map R.im = some res → ∃ w, atI vs i = some w ∧ Q w H := fun {vs ds i} h z => by
    cases z1 : atI ds i with
    | none => rw [z1] at z; cases z
    | some d =>
      rw [z1] at z
      cases z
      obtain ⟨w, w1, w2⟩ := at_ok h z1
      exact ⟨w, w1, k w H Hs (Ext.refl s) w2⟩
  unfold opIx at e
  split at e
  · cases hx with
    | lst h1 d1 =>
      cases hy
      obtain ⟨w, w1, w2⟩ := fin d1 e
      exact .inl ⟨_, _, _, w, rfl, rfl, SqL.of (s _ _ h1), w1, w2⟩
  · cases hx with
    | frz h1 d1 =>
      cases hy
      obtain ⟨w, w1, w2⟩ := fin d1 e
      exact .inl ⟨_, _, _, w, rfl, rfl, same_lst s h1, w1, w2⟩
  · cases hx with
    | tup h1 d1 =>
      cases hy
      obtain ⟨w, w1, w2⟩ := fin d1 e
      exact .inr (.inl ⟨_, _, _, w, rfl, rfl, same_tup s h1, w1, w2⟩)
  · split at e
    case isFalse => cases e
    rename_i hf
    rename_i z i
    cases hx; cases hy
    cases z1 : atI z.cps.toList i with
    | none => rw [z1] at e; cases e
    | some c =>
      rw [z1] at e
      cases e
      exact .inr (.inr ⟨z, i, c, rfl, rfl, few_ok hf, z1, k _ H Hs (Ext.refl s) (.str _)⟩)
  · cases e
theorem ud_neg : UnD K (rU fun i => .int (-i)) unNeg := fun H Hs x dx res s hx e Q k => by
  unfold unNeg at e
  split at e
  case h_2 => cases e
  cases e
  cases hx
  exact ⟨_, rfl, k _ H Hs (Ext.refl s) (.int _)⟩
/-- slices of lists -/
def cutD (xs : List D) (lo hi : Option Int) : List D := (xs.drop (HT.sIx xs.length 0 lo)).take (HT.sIx xs.length xs.length hi - HT.sIx xs.length 0 lo)
theorem cut_ok {H : Hp} {vs : List V} {ds : List D} (h : DRs K H vs ds) (lo hi : Option Int) : DRs K H (cutV vs lo hi) (cutD ds lo hi) := by
  unfold cutV cutD
  rw [h.len]
  exact (h.drop _).take _
def slL (d : D) (lo hi : Option Int) : Option R := match asL d with
  | some xs => some (.ol (cutD xs lo hi))
  | none => none
theorem sd_list : SlD K (rSlL K) slL := fun H Hs x dx l h res s hx e Q k => by
  unfold slL at e
  cases z : asL dx with
  | none => rw [z] at e; cases e
  | some xs =>
    rw [z] at e
    cases e
    obtain ⟨a, vs, rfl, h1, d1⟩ := asL_ok hx z
    exact ⟨a, vs, rfl, same_lst s h1, fun p hp => k _ _ Hs (Ext.hid s hp) ⟨p, _, rfl, hp, upd_same, none_sub s hp, _, rfl, cut_ok d1 _ _⟩⟩
def cbAbs : List D → Option R
  | [.int i] => some (.im (.int (if i < 0 then -i else i)))
  | _ => none
def rAbs : List V → Hp → VK → Prop := fun xs H Q => ∃ i, xs = [.int i] ∧ Q (.int (if i < 0 then -i else i)) H
theorem cr_abs {X : Cx} : CallR X (.builtin "abs") rAbs := call_abs
theorem cd_abs : CbD K rAbs cbAbs := fun H Hs xs ds res s h e Q k => by
  unfold cbAbs at e
  split at e
  case h_2 => cases e
  cases e
  cases h with
  | cons a b => cases b; cases a; exact ⟨_, rfl, k _ H Hs (Ext.refl s) (.int _)⟩
def cbInt : List D → Option R
  | [.int i] => some (.im (.int i))
  | [.bl b] => some (.im (.int (if b then 1 else 0)))
  | _ => none
def rInt : List V → Hp → VK → Prop := fun xs H Q => (∃ i, xs = [.int i] ∧ Q (.int i) H) ∨ ∃ k, xs = [.bl k] ∧ Q (.int (if k then 1 else 0)) H
theorem cr_int {X : Cx} : CallR X (.type "int") rInt := call_int1
theorem cd_int : CbD K rInt cbInt := fun H Hs xs ds res s h e Q k => by
  unfold cbInt at e
  split at e
  · cases e
    cases h with
    | cons a b => cases b; cases a; exact .inl ⟨_, rfl, k _ H Hs (Ext.refl s) (.int _)⟩
  · cases e
    cases h with
    | cons a b => cases b; cases a; exact .inr ⟨_, rfl, k _ H Hs (Ext.refl s) (.int _)⟩
  · cases e
def lenD : D → Option Nat
  | .lst xs => some xs.length
  | .frz xs => some xs.length
  | .tup xs => some xs.length
  | .str x => if few x.length then some x.length else none
  | _ => none
def cbLen : List D → Option R
  | [d] => (lenD d).map fun n => .im (.int n)
  | _ => none
theorem cr_len {X : Cx} : CallR X (.builtin "len") (rLen X.K) := call_len
theorem lenD_ok {H : Hp} {x : V} {d : D} {n : Nat} (h : DR K H x d) (e : lenD d = some n) : LenV K x H n := by
  cases h with
  | lst h1 d1 => cases e; exact .inl ⟨_, SqL.of h1, d1.len.symm⟩
  | frz h1 d1 => cases e; exact .inl ⟨_, h1, d1.len.symm⟩
  | tup h1 d1 => cases e; exact .inr ⟨_, h1, d1.len.symm⟩
  | str x =>
    by_cases hf : few x.length = true
    · rw [show lenD (.str x) = some x.length from if_pos hf] at e
      cases e
      exact ⟨few_ok hf, rfl⟩
    · rw [show lenD (.str x) = none from if_neg hf] at e
      cases e
  | _ => cases e
theorem cd_len : CbD K (rLen K) cbLen := fun H Hs xs ds res s h e Q k => by
  unfold cbLen at e
  split at e
  case h_2 => cases e
  rename_i d
  cases z : lenD d with
  | none => rw [z] at e; cases e
  | some n =>
    rw [z] at e
    cases e
    cases h with
    | cons a b =>
      cases b
      exact ⟨_, n, rfl, lenD_ok (a.mono s) z, k _ H Hs (Ext.refl s) (.int _)⟩
def cbMax2 : List D → Option R
  | [.int i, .int j] => some (.im (.int (if j > i then j else i)))
  | _ => none
def cbMin2 : List D → Option R
  | [.int i, .int j] => some (.im (.int (if j < i then j else i)))
  | _ => none
def rMax2 : List V → Hp → VK → Prop := fun xs H Q => ∃ i j, xs = [.int i, .int j] ∧ Q (.int (if j > i then j else i)) H
def rMin2 : List V → Hp → VK → Prop := fun xs H Q => ∃ i j, xs = [.int i, .int j] ∧ Q (.int (if j < i then j else i)) H
theorem cr_max2 {X : Cx} (hc : X.calm = true) : CallR X (.builtin "max") rMax2 := call_max2 hc
theorem cr_min2 {X : Cx} (hc : X.calm = true) : CallR X (.builtin "min") rMin2 := call_min2 hc
theorem cd_max2 : CbD K rMax2 cbMax2 := fun H Hs xs ds res s h e Q k => by
  unfold cbMax2 at e
  split at e
  case h_2 => cases e
  cases e
  cases h with
  | cons a b =>
    cases b with
    | cons b c => cases c; cases a; cases b; exact ⟨_, _, rfl, k _ H Hs (Ext.refl s) (.int _)⟩
theorem cd_min2 : CbD K rMin2 cbMin2 := fun H Hs xs ds res s h e Q k => by
  unfold cbMin2 at e
  split at e
  case h_2 => cases e
  cases e
  cases h with
  | cons a b =>
    cases b with
    | cons b c => cases c; cases a; cases b; exact ⟨_, _, rfl, k _ H Hs (Ext.refl s) (.int _)⟩
def bools : List D → Option (List Bool)
  | [] => some []
  | .bl b :: ds => match bools ds with
    | some bs => some (b :: bs)
    | none => none
  | _ :: _ => none
theorem bools_ok {H : Hp} : ∀ {ds : List D} {vs : List V} {bs : List Bool}, DRs K H vs ds → bools ds = some bs → vs = bs.map V.bl
  | [], _, _, h, e => by cases h; cases e; rfl
  | d :: ds, _, _, h, e => by
    cases h with
    | cons a b =>
      unfold bools at e
      split at e
      · rename_i heq; cases heq
      · rename_i heq
        cases heq
        split at e
        case h_2 => cases e
        rename_i z
        cases e
        cases a
        rw [List.map_cons, ← bools_ok b z]
      · cases e
def cbAny : List D → Option R
  | [d] => match asL d with
    | some xs => (bools xs).map fun bs => .im (.bl (bs.any id))
    | none => none
  | _ => none
def cbAll : List D → Option R
  | [d] => match asL d with
    | some xs => (bools xs).map fun bs => .im (.bl (bs.all id))
    | none => none
  | _ => none
theorem cd_any : CbD K (rAny K) cbAny := fun H Hs xs ds res s h e Q k => by
  unfold cbAny at e
  split at e
  case h_2 => cases e
  split at e
  case h_2 => cases e
  rename_i ys z
  cases z1 : bools ys with
  | none => rw [z1] at e; cases e
  | some bs =>
    rw [z1] at e
    cases e
    cases h with
    | cons a b =>
      cases b
      obtain ⟨l, vs, rfl, h1, d1⟩ := asL_ok a z
      exact ⟨l, bs, rfl, by rw [← bools_ok d1 z1]; exact same_lst s h1, k _ H Hs (Ext.refl s) (.bl _)⟩
theorem cd_all : CbD K (rAll K) cbAll := fun H Hs xs ds res s h e Q k => by
  unfold cbAll at e
  split at e
  case h_2 => cases e
  split at e
  case h_2 => cases e
  rename_i ys z
  cases z1 : bools ys with
  | none => rw [z1] at e; cases e
  | some bs =>
    rw [z1] at e
    cases e
    cases h with
    | cons a b =>
      cases b
      obtain ⟨l, vs, rfl, h1, d1⟩ := asL_ok a z
      exact ⟨l, bs, rfl, by rw [← bools_ok d1 z1]; exact same_lst s h1, k _ H Hs (Ext.refl s) (.bl _)⟩
def cbTuple : List D → Option R
  | [.tup xs] => some (.im (.tup xs))
  | [d] => (asL d).map fun xs => .im (.tup xs)
  | _ => none
def rTupleOf (K : PySem.W.Frag) : List V → Hp → VK → Prop := fun xs H Q => ∃ p ys, xs = [.ref p] ∧ ((SqL K H p ys ∧ ∀ l, H l = none → Q (.ref l) (upd H l (.tup ys))) ∨ (SqT K H p ys ∧ Q (.ref p) H))
theorem cr_tuple {X : Cx} : CallR X (.type "tuple") (rTupleOf X.K) := call_tuple_of
theorem cd_tuple : CbD K (rTupleOf K) cbTuple := fun H Hs xs ds res s h e Q k => by
  unfold cbTuple at e
  split at e
  · cases e
    cases h with
    | cons a b =>
      cases b
      cases a with
      | tup h1 d1 => exact ⟨_, _, rfl, .inr ⟨same_tup s h1, k _ H Hs (Ext.refl s) (.tup h1 d1)⟩⟩
  · rename_i d _
    cases z : asL d with
    | none => rw [z] at e; cases e
    | some ys =>
      rw [z] at e
      cases e
      cases h with
      | cons a b =>
        cases b
        obtain ⟨l, vs, rfl, h1, d1⟩ := asL_ok a z
        exact ⟨l, vs, rfl, .inl ⟨same_lst s h1, fun p hp => k _ _ _ (Ext.new s hp) (.tup (SqT.of upd_same) (d1.mono (Ext.new (o := HO.tup vs) s hp).b))⟩⟩
  · cases e
def seqD : D → Option (List D)
  | .lst xs => some xs
  | .frz xs => some xs
  | .tup xs => some xs
  | _ => none
def tyS : D → Option String
  | .non => some "NoneType"
  | .bl _ => some "bool"
  | .int _ => some "int"
  | .str _ => some "str"
  | .lst _ => some "list"
  | .frz _ => some "list"
  | .tup _ => some "tuple"
  | _ => none
def isiT (a b : String) : Option Bool :=
  if ["int", "bool", "str", "list", "tuple"].contains b then some (a == b || (a == "bool" && b == "int")) else none
theorem isiT_ok {a b : String} {k : Bool} (ha : ["NoneType", "bool", "int", "str", "list", "tuple"].contains a = true) (h : isiT a b = some k) : kitB a b = some k := by
  have hb : ["int", "bool", "str", "list", "tuple"].contains b = true := by
    unfold isiT at h
    split at h
    · assumption
    · cases h
  have key : (["NoneType", "bool", "int", "str", "list", "tuple"].all fun a => ["int", "bool", "str", "list", "tuple"].all fun b => decide (kitB a b = isiT a b)) = true := by decide +kernel
  rw [List.all_eq_true] at key
  have k1 := key a (by simpa using ha)
  rw [List.all_eq_true] at k1
  have k2 := of_decide_eq_true (k1 b (by simpa using hb))
  rw [k2]
  exact h
theorem tyS_ok {H : Hp} {x : V} {d : D} {t : String} (h : DR K H x d) (e : tyS d = some t) : TyX K H x (.type t) ∧ ["NoneType", "bool", "int", "str", "list", "tuple"].contains t = true := by
  cases h with
  | non => cases e; exact ⟨.base .non, by decide⟩
  | bl b => cases e; exact ⟨.base (.bl b), by decide⟩
  | int i => cases e; exact ⟨.base (.int i), by decide⟩
  | str x => cases e; exact ⟨.base (.str x), by decide⟩
  | lst h1 d1 => cases e; exact ⟨.base (.lst h1), by decide⟩
  | frz h1 d1 =>
    cases e
    rcases h1 with (h1 | ⟨o, h1⟩) | ⟨o, its, n, h1, h2, _⟩
    · exact ⟨.base (.lst h1), by decide⟩
    · exact ⟨.base (.frz h1), by decide⟩
    · exact ⟨.kList h1 h2, by decide⟩
  | tup h1 d1 =>
    cases e
    rcases h1 with (h1 | ⟨o, h1⟩) | ⟨o, its, n, h1, h2, _⟩
    · exact ⟨.base (.tup h1), by decide⟩
    · exact ⟨.fTuple h1, by decide⟩
    · exact ⟨.kTuple h1 h2, by decide⟩
  | _ => cases e
def cbIsi : List D → Option R
  | [d, .ty c] => match tyS d with
    | some t => (isiT t c).map fun k => .im (.bl k)
    | none => none
  | _ => none
theorem cd_isi : CbD K (rIsi K) cbIsi := fun H Hs xs ds res s h e Q k => by
  unfold cbIsi at e
  split at e
  case h_2 => cases e
  rename_i d c
  cases z : tyS d with
  | none => rw [z] at e; cases e
  | some t =>
    simp only [z] at e
    cases z1 : isiT t c with
    | none => rw [z1] at e; cases e
    | some b =>
      rw [z1] at e
      cases e
      cases h with
      | cons a a2 =>
        cases a2 with
        | cons a2 a3 =>
          cases a3
          cases a2
          obtain ⟨t1, t2⟩ := tyS_ok (a.mono s) z
          exact ⟨_, _, _, _, b, rfl, .ty c, t1, kit_ty (isiT_ok t2 z1), k _ H Hs (Ext.refl s) (.bl _)⟩
end
end Bk
namespace Bk
open PySem L2
def pad (n : Nat) (ds : List D) : Gam := ds.map Ent.im ++ List.replicate (n - ds.length) Ent.un
def outF : Option (Fl × Gam) → Option R
  | some (.rt r, _) => some r
  | some (.nx, _) => some (.im .non)
  | _ => none
def runF (k n : Nat) (b : MS) (ds : List D) : Option R := if ds.length = k then outF (b (pad n ds)) else none
def outB : Option (Fl × Gam) → Option (R × Mob)
  | some (.rt r, .bx bs :: _) => some (r, bs)
  | some (.nx, .bx bs :: _) => some (.im .non, bs)
  | _ => none
def runB (k n : Nat) (b : MS) (bs : Mob) (ds : List D) : Option (R × Mob) := if ds.length + 1 = k then outB (b (.bx bs :: pad (n - 1) ds)) else none
/-- what stands but is hidden -/
def hid (H Hs : Hp) : Hp := fun a => match Hs a with
  | none => H a
  | some _ => none
theorem hid_some {H Hs : Hp} {a : Addr} {o : HO} (h : hid H Hs a = some o) : H a = some o ∧ Hs a = none := by
  unfold hid at h
  cases z : Hs a with
  | none => rw [z] at h; exact ⟨h, rfl⟩
  | some u => rw [z] at h; cases h
theorem hid_of {H Hs : Hp} {a : Addr} {o : HO} (h : H a = some o) (n : Hs a = none) : hid H Hs a = some o := by
  unfold hid
  rw [n]
  exact h
section
variable {K : PySem.W.Frag}
theorem pad_get {n : Nat} {ds : List D} {i : Nat} {e : Ent} (h : (pad n ds)[i]? = some e) : (∃ d, ds[i]? = some d ∧ e = .im d) ∨ e = .un := by
  unfold pad at h
  rw [List.getElem?_append] at h
  split at h
  · rw [List.getElem?_map] at h
    cases z : ds[i]? with
    | none => rw [z] at h; cases h
    | some d => rw [z] at h; cases h; exact .inl ⟨d, rfl, rfl⟩
  · exact .inr (List.eq_of_mem_replicate (List.mem_of_getElem? h))
theorem pad_len (n : Nat) (ds : List D) (h : ds.length ≤ n) : (pad n ds).length = n := by
  unfold pad
  rw [List.length_append, List.length_map, List.length_replicate]
  omega
theorem start_get {N : List PySem.Str} {vs : List V} {i : Nat} {v : V} (h : vs[i]? = some v) : (L2.start N vs)[i]? = some (some v) := by
  unfold L2.start
  have hl : i < (vs.map some).length := by
    rw [List.length_map]
    exact (List.getElem?_eq_some_iff.mp h).1
  rw [List.getElem?_append_left hl, List.getElem?_map, h]
  rfl
theorem start_len {N : List PySem.Str} {vs : List V} (h : vs.length ≤ N.length) : (L2.start N vs).length = N.length := by
  unfold L2.start
  rw [List.length_append, List.length_map, List.length_replicate]
  omega
theorem rel_start {N : List PySem.Str} {H Hs : Hp} {vs : List V} {ds : List D} (s : Same Hs H) (d : DRs K Hs vs ds) (hl : vs.length ≤ N.length) : Rel K (hid H Hs) (fun _ => 0) (pad N.length ds) (L2.start N vs) H Hs := by
  refine ⟨s, fun a o h => hid_some h, by rw [start_len hl, pad_len _ _ (by rw [← d.len]; exact hl)], fun i e h => ?_, fun i e es h h0 => ?_, fun i j e e' l h1 _ m1 _ _ _ => ?_, fun i es h => ?_⟩
  · rcases pad_get h with ⟨e', h1, h2⟩ | h2
    · cases h2
      obtain ⟨v, v1, v2⟩ := d.at h1
      exact ⟨v, start_get v1, v2⟩
    · cases h2
  · rcases pad_get h with ⟨e', _, h2⟩ | h2
    · subst h2; cases h0
    · subst h2; cases h0
  · rcases pad_get h1 with ⟨e', _, h2⟩ | h2
    · subst h2; exact absurd rfl m1
    · subst h2; exact absurd rfl m1
  · rcases pad_get h with ⟨e', _, h2⟩ | h2
    · cases h2
    · cases h2
/-- behind a def's body: what the caller wants to know -/
theorem ext_end {Fz : Hp} {ba : Nat → Addr} {G : Gam} {σ : L2.St} {H Hs H' Hs' : Hp} (s : Same Hs H) (hf : Fz = hid H Hs) (q : Rel K Fz ba G σ H' Hs') (z : Same Hs Hs') : Ext H Hs H' Hs' := by
  subst hf
  refine ⟨fun a o h => ?_, z, q.sub, fun a o h n => (q.fz a o (hid_of h n)).2⟩
  cases y : Hs a with
  | none => exact (q.fz a o (hid_of h y)).1
  | some u =>
    have e := s a u y
    rw [h] at e
    cases e
    exact q.sub a o (z a o y)
theorem res_end {Fz : Hp} {G : Gam} {σ : L2.St} {H Hs H' Hs' : Hp} {v : V} {r : R} (hf : Fz = hid H Hs) (z : Same Hs Hs') (x : Res K Fz G σ H' Hs' v r) : ResF K H H' Hs' v r := by
  subst hf
  cases r with
  | im d => exact x
  | ow ds =>
    obtain ⟨p, vs, rfl, h1, h2, h3, h4, _⟩ := x
    refine ⟨p, vs, rfl, ?_, h1, h2, h4⟩
    cases y : H p with
    | none => rfl
    | some o =>
      cases y2 : Hs p with
      | some u =>
        rw [z p u y2] at h2
        cases h2
      | none =>
        rw [hid_of y y2] at h3
        cases h3
theorem fin_F {N : List PySem.Str} {k : Nat} {t : TS} {b : MS} (h : SOk K t b) (hk : k ≤ N.length) {vs : List V} {H : Hp} {Q : VK} {E : XK} (q : spF K (runF k N.length b) vs H Q E) : t { nx := fun _ H' => Q .non H', rt := Q } (L2.start N vs) H := by
  obtain ⟨Hs, ds, r, s, d, e, kk⟩ := q
  unfold runF at e
  split at e
  case isFalse => cases e
  rename_i hl
  have hv : vs.length ≤ N.length := by rw [d.len, hl]; exact hk
  have R0 := rel_start (N := N) s d hv
  cases z : b (pad N.length ds) with
  | none => rw [z] at e; cases e
  | some p =>
    obtain ⟨fl, G'⟩ := p
    rw [z] at e
    refine h _ _ _ _ _ _ fl G' R0 z _ ?_
    cases fl with
    | nx => cases e; exact fun σ' H' Hs' q1 s1 => kk .non H' Hs' (ext_end s rfl q1 s1) .non
    | rt r' => cases e; exact fun v σ' H' Hs' q1 s1 x => kk v H' Hs' (ext_end s rfl q1 s1) (res_end rfl s1 x)
    | bk => cases e
    | ct => cases e
theorem spF_len {k n : Nat} {b : MS} {vs : List V} {H : Hp} {Q : VK} {E : XK} (q : spF K (runF k n b) vs H Q E) : vs.length = k := by
  obtain ⟨Hs, ds, r, s, d, e, kk⟩ := q
  unfold runF at e
  split at e
  case isFalse => cases e
  rename_i hl
  rw [d.len, hl]
/-- the same with a list that may change -/
def hidB (l : Addr) (H Hs : Hp) : Hp := fun a => if a = l then none else hid H Hs a
theorem hidB_of {l : Addr} {H Hs : Hp} {a : Addr} {o : HO} (ne : a ≠ l) (h : H a = some o) (n : Hs a = none) : hidB l H Hs a = some o := by
  unfold hidB
  rw [if_neg ne]
  exact hid_of h n
theorem rel_startB {N : List PySem.Str} {H Hs : Hp} {l : Addr} {bvs : HO} {vs : List V} {bds : Mob} {ds : List D} (s : Same Hs H) (hl : H l = some bvs) (hn : Hs l = none) (hb : MobO K Hs bds bvs) (d : DRs K Hs vs ds) (hz : vs.length + 1 ≤ N.length) :
    Rel K (hidB l H Hs) (fun _ => l) (.bx bds :: pad (N.length - 1) ds) (L2.start N (.ref l :: vs)) H Hs := by
  have e0 : L2.start N (.ref l :: vs) = some (.ref l) :: (vs.map some ++ List.replicate (N.length - (vs.length + 1)) none) := rfl
  have sg : ∀ {i : Nat} {v : V}, vs[i]? = some v → (L2.start N (.ref l :: vs))[i + 1]? = some (some v) := fun {i v} h => start_get (vs := .ref l :: vs) (by simpa using h)
  refine ⟨s, fun a o h => ?_, ?_, fun i e h => ?_, fun i e es h h0 => ?_, fun i j e e' l' h1 h2 m1 m2 _ _ => ?_, fun i es h => ?_⟩
  · unfold hidB at h
    split at h
    · cases h
    · exact hid_some h
  · rw [start_len (by simpa using hz), List.length_cons, pad_len _ _ (by rw [← d.len]; omega)]
    omega
  · cases i with
    | zero => cases h
    | succ i =>
      rcases pad_get (show (pad (N.length - 1) ds)[i]? = some _ by simpa using h) with ⟨e', h1, h2⟩ | h2
      · cases h2
        obtain ⟨v, v1, v2⟩ := d.at h1
        exact ⟨v, sg v1, v2⟩
      · cases h2
  · cases i with
    | zero =>
      cases h
      cases h0
      exact ⟨l, bvs, by rw [e0]; rfl, hl, hn, by unfold hidB; rw [if_pos rfl], hb⟩
    | succ i =>
      rcases pad_get (show (pad (N.length - 1) ds)[i]? = some _ by simpa using h) with ⟨e', _, h2⟩ | h2
      · subst h2; cases h0
      · subst h2; cases h0
  · have only : ∀ {i : Nat} {e : Ent}, (Ent.bx bds :: pad (N.length - 1) ds)[i]? = some e → e.mu ≠ none → i = 0 := fun {i e} h m => by
      cases i with
      | zero => rfl
      | succ i =>
        rcases pad_get (show (pad (N.length - 1) ds)[i]? = some _ by simpa using h) with ⟨e', _, h2⟩ | h2
        · subst h2; exact absurd rfl m
        · subst h2; exact absurd rfl m
    rw [only h1 m1, only h2 m2]
  · cases i with
    | zero => rw [e0]; rfl
    | succ i =>
      rcases pad_get (show (pad (N.length - 1) ds)[i]? = some _ by simpa using h) with ⟨e', _, h2⟩ | h2
      · cases h2
      · cases h2
theorem fin_B {N : List PySem.Str} {k : Nat} {t : TS} {b : MS} (h : SOk K t b) (hk : k ≤ N.length) {vs : List V} {H : Hp} {Q : VK} {E : XK} (q : spB K (runB k N.length b) vs H Q E) : t { nx := fun _ H' => Q .non H', rt := Q } (L2.start N vs) H := by
  obtain ⟨Hs, l, vs', bvs, bds, ds, r, bds', rfl, s, hl, hn, hb, d, e, kk⟩ := q
  unfold runB at e
  split at e
  case isFalse => cases e
  rename_i hlen
  have R0 := rel_startB (N := N) s hl hn hb d (by rw [d.len, hlen]; exact hk)
  -- what the caller wants to know
  have ex : ∀ {G σ H' Hs' bs}, Rel K (hidB l H Hs) (fun _ => l) (.bx bs :: G) σ H' Hs' → Same Hs Hs' → ExtB l H Hs H' Hs' ∧ ∃ ws, H' l = some ws ∧ Hs' l = none ∧ MobO K Hs' bs ws := fun {G σ H' Hs' bs} q1 s1 => by
    have hs0 : σ[0]? = some (some (.ref l)) := q1.bx 0 bs rfl
    obtain ⟨l', ws, a1, a2, a3, a4, a5⟩ := q1.mu 0 _ bs rfl rfl
    rw [hs0] at a1
    cases a1
    refine ⟨⟨fun a o ne h => ?_, s1, q1.sub, fun a o h n => ?_⟩, ws, a2, a3, a5⟩
    · cases y : Hs a with
      | none => exact (q1.fz a o (hidB_of ne h y)).1
      | some u =>
        have e := s a u y
        rw [h] at e
        cases e
        exact q1.sub a o (s1 a o y)
    · by_cases ne : a = l
      · rw [ne]; exact a3
      · exact (q1.fz a o (hidB_of ne h n)).2
  have rs : ∀ {G σ H' Hs' bs v r}, Rel K (hidB l H Hs) (fun _ => l) (.bx bs :: G) σ H' Hs' → Same Hs Hs' → Res K (hidB l H Hs) (.bx bs :: G) σ H' Hs' v r → ResF K H H' Hs' v r := fun {G σ H' Hs' bs v r} q1 s1 x => by
    cases r with
    | im d => exact x
    | ow ds =>
      obtain ⟨p, vs, rfl, h1, h2, h3, h4, h5⟩ := x
      have ne : p ≠ l := fun y => by
        subst y
        exact h5 0 _ rfl (by simp [Ent.mu]) (q1.bx 0 bs rfl)
      refine ⟨p, vs, rfl, ?_, h1, h2, h4⟩
      cases y : H p with
      | none => rfl
      | some o =>
        cases y2 : Hs p with
        | some u =>
          rw [s1 p u y2] at h2
          cases h2
        | none =>
          rw [hidB_of ne y y2] at h3
          cases h3
  cases z : b (.bx bds :: pad (N.length - 1) ds) with
  | none => rw [z] at e; cases e
  | some p =>
    obtain ⟨fl, G'⟩ := p
    rw [z] at e
    refine h _ _ _ _ _ _ fl G' R0 z _ ?_
    cases fl with
    | nx =>
      cases G' with
      | nil => cases e
      | cons e0 G' =>
        cases e0 with
        | bx bs =>
          cases e
          intro σ' H' Hs' q1 s1
          obtain ⟨x1, ws, x2, x3, x4⟩ := ex q1 s1
          exact kk .non H' Hs' ws x1 x2 x3 x4 .non
        | _ => cases e
    | rt r' =>
      cases G' with
      | nil => cases e
      | cons e0 G' =>
        cases e0 with
        | bx bs =>
          cases e
          intro v σ' H' Hs' q1 s1 x
          obtain ⟨x1, ws, x2, x3, x4⟩ := ex q1 s1
          exact kk v H' Hs' ws x1 x2 x3 x4 (rs q1 s1 x)
        | _ => cases e
    | bk => cases e
    | ct => cases e
theorem spB_len {k n : Nat} {b : MS} {vs : List V} {H : Hp} {Q : VK} {E : XK} (q : spB K (runB k n b) vs H Q E) : vs.length = k := by
  obtain ⟨Hs, l, vs', bvs, bds, ds, r, bds', rfl, s, hl, hn, hb, d, e, kk⟩ := q
  unfold runB at e
  split at e
  case isFalse => cases e
  rename_i hl
  rw [List.length_cons, d.len, hl]
end
theorem scope_le {N ps : List PySem.Str} {sc : Scope} (S : FnScope N ps sc) : ps.length ≤ N.length := by
  have h := congrArg List.length S.pre
  rw [List.length_take] at h
  omega
section
variable {P : Program} {w : World} {K : PySem.W.Frag} {mg : PySem.Str → Option Value} {base : Heap}
theorem data_F {x qual : PySem.Str} {st : Stmt} {f : Addr} {fd : FuncData} {N ps : List PySem.Str} {k : Nat} {b : MS} (F : Fun K x qual st f fd) (S : FnScope N ps (defScope st))
    (hb : ∀ (cdv : Value) (A : Around) (outer : List Env) (s : Shared) (H : Hp) (E : XK), Room k (A.deeper (PyProof.Rows.envOfC qual (defScope st) s.heap.objs.size f cdv)) →
      ∃ t, PSs (cxOf CX0 P w K mg base N qual (defScope st) f cdv A outer s H E).nox (defBody st) t ∧ SOk K t b) : FnOk P w K mg base CX0 (k + 1) f fd ps (spF K (runF ps.length N.length b)) :=
  F.ok S (fun vs H Q E q => spF_len q) fun cdv A outer s H vs Q E hr q => by
    obtain ⟨t, h1, h2⟩ := hb cdv A outer s H E hr
    exact ⟨t, h1, fin_F h2 (scope_le S) q⟩
theorem data_B {x qual : PySem.Str} {st : Stmt} {f : Addr} {fd : FuncData} {N ps : List PySem.Str} {k : Nat} {b : MS} (F : Fun K x qual st f fd) (S : FnScope N ps (defScope st))
    (hb : ∀ (cdv : Value) (A : Around) (outer : List Env) (s : Shared) (H : Hp) (E : XK), Room k (A.deeper (PyProof.Rows.envOfC qual (defScope st) s.heap.objs.size f cdv)) →
      ∃ t, PSs (cxOf CX0 P w K mg base N qual (defScope st) f cdv A outer s H E).nox (defBody st) t ∧ SOk K t b) : FnOk P w K mg base CX0 (k + 1) f fd ps (spB K (runB ps.length N.length b)) :=
  F.ok S (fun vs H Q E q => spB_len q) fun cdv A outer s H vs Q E hr q => by
    obtain ⟨t, h1, h2⟩ := hb cdv A outer s H E hr
    exact ⟨t, h1, fin_B h2 (scope_le S) q⟩
end
end Bk
namespace Bk
open PySem L2 PyProof.Rows
def rSlA (K : PySem.W.Frag) : V → Option Int → Option Int → Hp → VK → Prop := fun x lo hi H Q => rSlL K x lo hi H Q ∨ rSlT K x lo hi H Q
section
variable {K : PySem.W.Frag}
/-- xs[::k], k reckoned to be -1 -/
def tRevS (K : PySem.W.Frag) (te tk : TE) : TE := fun σ H Q => te σ H fun x H1 => tk σ H1 fun y H2 => y = .int (-1) ∧ (some (-1 : Int) = some (-1) ∧ ∃ a xs, x = .ref a ∧ SqL K H2 a xs ∧ ∀ p, H2 p = none → Q (.ref p) (upd H2 p (.lst xs.reverse)))
theorem pe_revS {X : Cx} {e st : Expr} {te tk : TE} {p3 pos : Pos} (he : PE X e te) (hk : PE X st tk) :
    PE X (.Subscript e (.Slice none none (some st) p3) pos) (tRevS X.K te tk) := by
  refine ⟨fun pins s σ H Q I h => ?_⟩
  refine Subscript_ (thn (he.run pins s σ H _ I h) fun v s1 ⟨x, H1, I1, r1, q1⟩ => ?_)
  refine wpAny_Slice (thn (po_none.run pins s1 σ H1 (fun o H2 => o = none ∧ H2 = H1) I1 ⟨rfl, rfl⟩) fun vl s2 ⟨l, H2, I2, pl, el, e2⟩ => ?_)
  subst el e2
  refine thn (po_none.run pins s2 σ H2 (fun o H3 => o = none ∧ H3 = H2) I2 ⟨rfl, rfl⟩) fun vu s3 ⟨u, H3, I3, pu, eu, e3⟩ => ?_
  subst eu e3
  have hst : PO X (some st) (fun σ H Q => tk σ H fun y H2 => y = .int (-1) ∧ Q (some (-1)) H2) := by
    refine ⟨fun pins s σ H Q I hw => ?_⟩
    rw [evalPart_some]
    refine thn (hk.run pins s σ H _ I hw) fun u s1 ⟨y, H1, I1, r1, q1⟩ => ?_
    obtain ⟨rfl, q⟩ := q1
    obtain ⟨t, rfl⟩ := r1
    exact ⟨some (-1), H1, I1, .int (-1) t, q⟩
  refine thn (hst.run pins s3 σ H3 (fun o H4 => o = some (-1) ∧ ∃ a xs, x = .ref a ∧ SqL X.K H4 a xs ∧ ∀ p, H4 p = none → Q (.ref p) (upd H4 p (.lst xs.reverse))) I3 q1) fun vs s4 ⟨o, H4, I4, ps, eo, a, xs, ex, hx, q⟩ => ?_
  subst eo ex
  cases r1
  have I5 : Inv X pins σ H4 { s4 with heap := s4.heap.push { cls := .type "slice", data := .fields #[vl, vu, vs] } } := I4.kept (t' := s4.toks) fun b ob q => Heap.get?_push_of_some _ q
  obtain ⟨its, r, ht, hz⟩ := I5.list hx
  have hlen := r.length
  show wpAny (model X.prog X.w) X.A (subscriptTail e (.Slice none none (some st) p3) (.ref a) (.ref s4.heap.objs.size)) (EP X pins σ Q) X.xe { s4 with heap := s4.heap.push { cls := .type "slice", data := .fields #[vl, vu, vs] } }
  refine tail_any (ops := [.ref a, .ref s4.heap.objs.size]) ht.isList.typeIs (PySem.slot_list_getitem.lookup) ?_ (by with_unfolding_all rfl)
  refine wpAny_getItem_list_slice ht.isList (Heap.IsSliceOf.new _ vl vu vs) pl pu ps (by decide) ?_ (by rw [List.size_toArray]; omega)
  rw [PySem.W.krv_pick]
  refine ⟨.ref _, _, I5.laid (t' := s4.toks) (o := .lst xs.reverse) (fun b ob q => Heap.get?_push_of_some _ q) (Nat.le_refl _) ?_, rfl, q _ (I5.hok.fresh (Nat.le_refl _))⟩
  exact ⟨by rw [List.length_reverse]; exact hz, _, 0, r.reverse, Heap.get?_push_size _ rfl⟩
def xrev (a b : M R) : M R := fun G => bd (a G) fun x G1 => bd (b G1) fun y G2 => match asL x.d, y.d with
  | some ds, .int k => if k = -1 then some (.ol ds.reverse, G2) else none
  | _, _ => none
theorem gk_rev {te tk : TE} {a b : M R} (ha : GOk K te a) (hb : GOk K tk b) : GOk K (tRevS K te tk) (xrev a b) := fun Fz ba G σ H Hs res G' q e Q k => by
  obtain ⟨x, G1, e1, e⟩ := bd_inv e
  obtain ⟨y, G2, e2, e⟩ := bd_inv e
  split at e
  case h_2 => cases e
  rename_i ds n h1 h2
  split at e
  case isFalse => cases e
  rename_i hn
  cases e
  refine ha.im q e1 fun v1 H1 Hs1 q1 s1 d1 => ?_
  refine hb.im q1 e2 fun v2 H2 Hs2 q2 s2 d2 => ?_
  rw [h2] at d2
  obtain ⟨a1, x1, rfl, l1, r1⟩ := asL_ok (d1.mono s2) h1
  refine ⟨by rw [dr_int d2, hn], rfl, a1, x1, rfl, same_lst q2.sub l1, fun p hp => ?_⟩
  have ex : Ext H2 Hs2 (upd H2 p (.lst x1.reverse)) Hs2 := Ext.hid q2.sub hp
  have rf : ResF K H2 (upd H2 p (.lst x1.reverse)) Hs2 (.ref p) (.ol ds.reverse) := ⟨p, _, rfl, hp, upd_same, none_sub q2.sub hp, _, rfl, r1.rev⟩
  exact k _ _ _ (q2.ext ex) ((s1.trans s2).trans ex.b) (rf.res q2)
def iSeq (K : PySem.W.Frag) (tl : TE) : TI := fun σ H R => tl σ H fun x H1 => ∃ a, x = .ref a ∧ (((∃ xs, SqL K H1 a xs) ∧ R (Itl K a) H1) ∨ ((∃ xs, SqT K H1 a xs) ∧ R (Itt K a) H1))
theorem pi_seq {X : Cx} {tg l : Expr} {tl : TE} (hl : PE X l tl) : PI X tg l (iSeq X.K tl) := by
  refine ⟨fun pins s σ H R I h => ?_⟩
  refine thn (hl.run pins s σ H _ I h) fun v s1 ⟨x, H1, I1, r1, q1⟩ => ?_
  obtain ⟨a, ex, hh⟩ := q1
  subst ex
  cases r1
  have fp : ∀ b ∈ [s1.heap.objs.size], FpOk X pins H1 b := fun b hb => by
    have e : b = s1.heap.objs.size := by simpa using hb
    subst e
    exact I1.fpOk (Nat.le_refl _) I1.fresh
  rcases hh with ⟨⟨xs, hq⟩, q⟩ | ⟨⟨xs, hq⟩, q⟩
  · obtain ⟨its, rv, p, hz⟩ := I1.list hq
    exact wpAny_pyIter_list p.isList ⟨_, _, _, _, H1, rfl, I1.kept (t' := s1.toks) fun b o e => Heap.get?_push_of_some _ e, turn_list a _, ⟨_, Heap.get?_push_size _ rfl, rfl, rfl⟩, fp, q⟩
  · obtain ⟨its, rv, p, hz⟩ := I1.tuple hq
    exact wpAny_pyIter_tuple (show s1.heap.IsTuple a its.toArray from p) ⟨_, _, _, _, H1, rfl, I1.kept (t' := s1.toks) fun b o e => Heap.get?_push_of_some _ e, turn_tuple a _, ⟨_, Heap.get?_push_size _ rfl, rfl, rfl⟩, fp, q⟩
def xseqI (a : M R) : M (List D) := fun G => bd (a G) fun x G1 => match seqD x.d with
  | some ds => some (ds, G1)
  | none => none
theorem ik_seq {ta : TE} {a : M R} (ha : GOk K ta a) : IOk K (iSeq K ta) (xseqI a) := fun Fz ba G σ H Hs ds G' q e Q k => by
  obtain ⟨x, G1, e1, e⟩ := bd_inv e
  refine ha.im q e1 fun v H1 Hs1 q1 s1 d => ?_
  cases h : x.d with
  | lst es =>
    rw [h] at e d
    cases e
    cases d with
    | lst hl hd => exact ⟨_, rfl, .inl ⟨⟨_, SqL.of (q1.sub _ _ hl)⟩, k _ H1 Hs1 q1 s1 (yl_list (SqL.of hl) hd)⟩⟩
  | frz es =>
    rw [h] at e d
    cases e
    cases d with
    | frz hl hd => exact ⟨_, rfl, .inl ⟨⟨_, same_lst q1.sub hl⟩, k _ H1 Hs1 q1 s1 (yl_list hl hd)⟩⟩
  | tup es =>
    rw [h] at e d
    cases e
    cases d with
    | tup hl hd => exact ⟨_, rfl, .inr ⟨⟨_, same_tup q1.sub hl⟩, k _ H1 Hs1 q1 s1 (yl_tup hl hd)⟩⟩
  | _ => rw [h] at e; cases e
def opAddI : D → D → Option R
  | .int i, .int j => some (.im (.int (i + j)))
  | _, _ => none
theorem od_ipadd : OpD K (ipI fun i j => i + j) opAddI := fun H Hs x y dx dy res s hx hy e Q k => by
  unfold opAddI at e
  split at e
  case h_2 => cases e
  cases e
  cases hx; cases hy
  exact ⟨_, _, rfl, rfl, k _ H Hs (Ext.refl s) (.int _)⟩
theorem od_ipsub : OpD K (ipI fun i j => i - j) opSub := fun H Hs x y dx dy res s hx hy e Q k => by
  unfold opSub at e
  split at e
  case h_2 => cases e
  cases e
  cases hx; cases hy
  exact ⟨_, _, rfl, rfl, k _ H Hs (Ext.refl s) (.int _)⟩
end
theorem r70 {k : Nat} {A : Around} (hr : Room k A) : A.units + 70 < cLine := by
  have := hr.un
  omega
section
variable {X : Cx} {K : PySem.W.Frag} (hK : X.K = K)
include hK
theorem kop_eq (hu : X.A.units + 64 < cLine) : OpR X (compareOp .Eq) (rEqA K) := hK ▸ op_eqA hu
theorem kop_ne (hu : X.A.units + 64 < cLine) : OpR X (compareOp .NotEq) (rNeA K) := hK ▸ op_neA hu
theorem kix : IxR X (rIx K) := hK ▸ ix_seq
theorem kpi_seq {tg l : Expr} {tl : TE} (hl : PE X l tl) : PI X tg l (iSeq K tl) := hK ▸ pi_seq hl
theorem kcr_len : CallR X (.builtin "len") (rLen K) := hK ▸ cr_len
theorem kcr_any (hc : X.calm = true) : CallR X (.builtin "any") (rAny K) := hK ▸ cr_any hc
theorem kcr_all (hc : X.calm = true) : CallR X (.builtin "all") (rAll K) := hK ▸ cr_all hc
theorem kcr_tuple : CallR X (.type "tuple") (rTupleOf K) := hK ▸ cr_tuple
theorem kcr_isi : CallR X (.builtin "isinstance") (rIsi K) := hK ▸ call_isi
theorem kpe_rev {e st : Expr} {te tk : TE} {p3 pos : Pos} (he : PE X e te) (hk : PE X st tk) : PE X (.Subscript e (.Slice none none (some st) p3) pos) (tRevS K te tk) := hK ▸ pe_revS he hk
theorem kpg_tup {es : List Expr} {k : Nat} {t : TGs} {n : Nat} {pos : Pos} (hc : X.calm = true) (h : PGs X es t)
    (hn : (assignEach es X.env).length = n := by rfl) (hst : (assignEach es X.env).findIdx? (·.1) = none := by rfl) : PG X (.Tuple es k pos) (gTup K n t) := hK ▸ pg_tup hc h hn hst
def tTruK (K : PySem.W.Frag) (ta : TE) : TT := fun σ H Q => ta σ H fun x H' => ∃ k, TruV K x H' k ∧ Q k H'
theorem kpt_tru {a : Expr} {ta : TE} (ha : PE X a ta) (he : ∀ whole, isTrue a X.env whole = (do let v ← whole; standAt a.pos; holding [v] (truthy v))) : PT X a (tTruK K ta) := hK ▸ pt_truth ha he
theorem kpe_app {o e : Expr} {to te : TE} {apos cpos : Pos} (ho : PE X o to) (he : PE X e te)
    (hbase : attributeBase o "append" X.env (eval o X.env) = eval o X.env := by rfl)
    (hfew : ((backTo cpos (starEach [e] X.env)).all (fun x => !x.1) && (backToKw cpos (keywordEach [] X.env)).all (fun x => x.1.isSome) && decide ([e].length + ([] : List Keyword).length + (if ([] : List Keyword).isEmpty then 0 else 1) < 30)) = true := by rfl)
    (hline : (apos.endLine == cpos.line) = true := by rfl) (hs : starEach [e] X.env = (false, eval e X.env) :: starEach [] X.env := by rfl) (hplain : (backTo cpos (starEach [] X.env)).any (·.1) = false := by rfl) :
    PE X (.Call (.Attribute o "append" apos) [e] [] cpos) (tBM K "list" rAppend to (tCons te tNil)) :=
  hK ▸ pe_bm PySem.F.plainAttrs_list PySem.F.slot_list_append PySem.F.type_list_append mt_append ho (pa_cons he pa_nil hs) hbase hfew hline hs hplain
end
theorem tk_truK {K : PySem.W.Frag} {ta : TE} {a : M R} (ha : GOk K ta a) : TOk K (tTruK K ta) (xtru a) := tk_tru ha
/-- turns enough: one more than the number of the name at i -/
def fuelI (i : Nat) (G : Gam) : Nat := match G[i]? with
  | some (.im (.int j)) => j.natAbs + 1
  | _ => 0
/-- a def of the text, where it stands -/
structure FnT (K : PySem.W.Frag) (mg : PySem.Str → Option Value) (x : PySem.Str) (st : Stmt) where
  f : Addr
  fd : FuncData
  F : Fun K x x st f fd
  m : mg x = some (.ref f)
/-- a global that stands for data -/
structure CoT (K : PySem.W.Frag) (mg : PySem.Str → Option Value) (x : PySem.Str) (d : D) where
  v : V
  u : Value
  m : mg x = some u
  r : RelV v u
  d : ∀ H, DR K H v d
def coTup {K : PySem.W.Frag} {h : Heap} {mg : PySem.Str → Option Value} {x : PySem.Str} (X : K.In h) (G : h.Ns mainGlobals mg) {a : Addr} {dd : Option Addr} {its : Array Value} {n : Nat} {sl : Array (Option Value)} {vs : List V} {ds : List D}
    (ha : PySem.W.nsIn K mainGlobals x = some (some (.ref a))) (l : K.lookup a = some ⟨.type "tuple", dd, .seq its n, sl⟩) (hz : its.size ≤ sizeLine) (hv : Vals vs its.toList) (hd : ∀ H, DRs K H vs ds) : CoT K mg x (.tup ds) :=
  ⟨.ref a, .ref a, PySem.W.mg_of X G ha, rfl, fun H => .tup (.inr ⟨_, its, n, l, rfl, rfl, hz, hv⟩) (hd H)⟩
def fnT {K : PySem.W.Frag} {h : Heap} {mg : PySem.Str → Option Value} {x : PySem.Str} {st : Stmt} (X : K.In h) (G : h.Ns mainGlobals mg) {f : Addr} {od an : Option Addr} {sl : Array (Option Value)} {oc kV dc pm cd ct : Value}
    (a : PySem.W.nsIn K mainGlobals x = some (some (.ref f))) (l : K.lookup f = some ⟨oc, od, .func (PySem.W.fnOf x x (defArgs st) (defBody st) (defScope st) .none kV dc pm an cd ct), sl⟩) (c : PySem.W.codeIn K cd x = true) (k : PySem.W.keepIn K (.ref f) = true) : FnT K mg x st :=
  ⟨f, _, fun_mk l c k, PySem.W.mg_of X G a⟩
end Bk
namespace Bk
open PySem L2 PySem.Builtin PySem.Spec PyProof.Rows
theorem enum_of {v : Value} {o : Obj} {H : Heap → Prop} (B : Begins v o H) :
    Meets (Builtin.«enumerate.__new__» ⟨[.type "enumerate", v], []⟩) (fun _ R s => H s.heap ∧ R (.ok (.ret (.ref (s.heap.push o).objs.size)))
      { s with heap := (s.heap.push o).push { cls := .type "enumerate", data := .fields #[.none, .bool false, .ref s.heap.objs.size, rawInt 0, .none, .none] } }) :=
  .of_wp fun prog w A R s hh => by
    obtain ⟨hp, g, d, tk, os⟩ := s
    obtain ⟨hb, hr⟩ := hh
    have hsub := sub_enumerate
    have qi : ∀ {A' : Around} {E Q : Value → Shared → Prop}, Q (.ref hp.objs.size) ⟨hp.push o, g, d, tk, os⟩ → wpAny (model prog w) A' (pyIter v) Q E ⟨hp, g, d, tk, os⟩ := fun k => B.iter prog w _ _ ⟨hp, g, d, tk, os⟩ _ hb k
    wp_walk using qi
    refine wpAny_stack_any fun fr => wpAny_pure ?_
    split
    case h_1 c _ _ _ _ _ =>
      cases (c == Value.type "enumerate") <;> (wp_walk using qi; exact ⟨_, rfl, hr⟩)
    all_goals (wp_walk using qi; exact ⟨_, rfl, hr⟩)
theorem enum_call {prog : Program} {w : World} {A : Around} {E : Value → Shared → Prop} {s : Shared} {v : Value} {o : Obj} {H : Heap → Prop} {Q : Value → Shared → Prop} (B : Begins v o H) (h1 : H s.heap)
    (h : ∀ h', IsEnum h' (s.heap.objs.size + 1) s.heap.objs.size 0 .none → h'.get? s.heap.objs.size = some o → (∀ b ob, s.heap.get? b = some ob → h'.get? b = some ob) → Q (.ref (s.heap.objs.size + 1)) { s with heap := h' }) :
    wpAny (model prog w) A (call (.type "enumerate") [v]) Q E s := by
  have hz : (s.heap.push o).objs.size = s.heap.objs.size + 1 := Heap.size_push ..
  have he := Heap.get?_push_size (s.heap.push o) (o := { cls := .type "enumerate", data := .fields #[.none, .bool false, .ref s.heap.objs.size, rawInt 0, .none, .none] }) rfl
  rw [hz] at he
  refine callType_new F.called_enumerate (by decide) (F.typeCall_enumerate_1 _) (F.newCall_enumerate_1 _) (fun ob => F.args_object_init_2 ob _) F.entry_enumerate_new (enum_of B) ⟨h1, ?_⟩
  show _ ∧ _
  rw [hz]
  exact ⟨⟨_, he, rfl⟩, h _ he (Heap.get?_push_of_some _ (Heap.get?_push_size _ B.free)) fun b ob x => Heap.get?_push_of_some _ (Heap.get?_push_of_some _ x)⟩
theorem draws_end {prog : Program} {w : World} {A : Around} (hh : A.handled = none) (it t : Addr) (items : Array Value) (i : Nat) (hi : items.size ≤ i) :
    Draws prog w A it [it, t] i (fun _ _ => True) (fun j h => (h.IsTupleIter it t j ∧ h.IsTuple t items) ∧ j = i) where
  live := fun _ _ st => st.1.1.elim fun o ho => ⟨o, ho.1⟩
  frame := fun _ _ _ st hk => ⟨⟨st.1.1.at fun o e => hk it (by simp) o e, st.1.2.at fun o e => hk t (by simp) o e⟩, st.2⟩
  item := fun j s Q E hj st hQ => absurd st.2 (Nat.ne_of_lt hj)
  done := fun s Q E st hE => wpAny_nextOf_tuple_end hh st.1.1 st.1.2 (Array.getElem?_eq_none hi) hE
/-- the tuple at a, each item in a new pair -/
def Itet (K : PySem.W.Frag) (a : Addr) : It :=
  ⟨fun i H => ∃ (xs : List V) (x : V), SqT K H a xs ∧ xs[i]? = some x, fun i H v H' => ∃ T x, v = .ref T ∧ H T = none ∧ H' = upd H T (.tup [.int (i : Nat), x]) ∧ ∀ xs, SqT K H a xs → xs[i]? = some x, fun i H => ∃ xs : List V, SqT K H a xs ∧ xs.length ≤ i⟩
theorem turn_enumT {P : Program} {w : World} {K : PySem.W.Frag} {elts : List Expr} {kk : Nat} {tpos : Pos} (a e it : Addr) (hea : e ≠ a) (hta : a ≠ it) :
    Turn P w K (.Tuple elts kk tpos) (Itet K a) [e, it] e (fun i h => (∃ old, IsEnum h e it ((i : Nat) : Int) old) ∧ h.IsTupleIter it a i ∧ e ≠ it) where
  mem := by simp
  obj := fun i h st b hb => by
    obtain ⟨⟨old, he⟩, ⟨o, ho, hc, hd⟩, _⟩ := st
    have eb : b = e ∨ b = it := by simpa using hb
    rcases eb with rfl | rfl
    · exact ⟨_, he, fun v q => nomatch q⟩
    · exact ⟨o, ho, fun v q => by rw [hd] at q; cases q⟩
  keep := fun i h h' st k => ⟨st.1.elim fun old he => ⟨old, k e (by simp) _ he⟩, st.2.1.at fun o q => k it (by simp) o q, st.2.2⟩
  item := by
    intro X hP hw hK hc i pins s σ H E I hf st hg
    subst hP hw hK
    obtain ⟨⟨old, he⟩, hit, hne⟩ := st
    obtain ⟨xs, x, hq, hx⟩ := hg
    obtain ⟨its, rv, p, hz⟩ := I.tuple hq
    obtain ⟨u, hu, ru⟩ := rv.get hx
    have hlt : i < its.toArray.size := by
      have : i < its.length := (List.getElem?_eq_some_iff.mp hu).1
      simpa using this
    have hel : e < s.heap.objs.size := Heap.lt_size he
    have hil : it < s.heap.objs.size := by obtain ⟨_, q, _⟩ := hit; exact Heap.lt_size q
    refine wpAny_pyNext_enum_itemD (Draws.tuple (A := X.A.in1) (I.ok.hd hc) it a hta its.toArray) he ⟨hit, show s.heap.IsTuple a its.toArray from p⟩ hlt hne (by simp [hne, hea]) fun y h' tk hP ho st' hT hsz hk => ?_
    have ey : y = u := by
      have : its[i]? = some y := by simpa using hP
      rw [hu] at this
      cases this
      rfl
    subst ey
    refine ⟨_, rfl, wpAny_letOwnedTupleGo_enum (s := { s with heap := h', toks := tk + 1 }) ho fun h'' he' sb => ?_⟩
    have hT2 := (sb.2 _ (Nat.ne_of_gt hel)).trans hT
    have new : ObjOk X.prog X.w (upd H s.heap.objs.size (.tup [.int (i : Nat), x])) h'' s.heap.objs.size (.tup [.int (i : Nat), x]) :=
      ⟨by show 2 ≤ sizeLine; decide, [.int i tk, y], .cons ⟨_, rfl⟩ (.cons ru .nil), ⟨_, hT2, rfl, _, rfl⟩⟩
    have I1 : Inv X pins σ (upd H s.heap.objs.size (.tup [.int (i : Nat), x])) { s with heap := h'', toks := tk + 1 } :=
      I.turnedNew (ch := [e, it]) (fun b ob hb q => (sb.2 b (fun z => hb (by simp [z]))).trans (hk b ob (fun z => hb (by simp [z])) (fun z => hb (by simp [z])) q)) hf (Nat.le_refl _) new
    refine ⟨.ref s.heap.objs.size, _, I1, rfl, ⟨_, x, rfl, I.hok.fresh (Nat.le_refl _), rfl, fun ys hy => by rw [I.tuple_inj hy hq]; exact hx⟩, ⟨⟨y, ?_⟩, st'.1.at fun o q => (sb.2 it (Ne.symm hne)).trans q, hne⟩, fun b hb => ?_⟩
    · rw [show ((i + 1 : Nat) : Int) = (i : Int) + 1 by omega]
      exact he'
    · have eb : b = e ∨ b = it := by simpa using hb
      have hlb : b < s.heap.objs.size := by rcases eb with rfl | rfl; exact hel; exact hil
      rw [upd_ne (Nat.ne_of_lt hlb)]
      exact (hf b hb).1
  done := by
    intro X hP hw hK hc i pins s σ H E I hf st hg
    subst hP hw hK
    obtain ⟨⟨old, he⟩, hit, hne⟩ := st
    obtain ⟨xs, hq, hx⟩ := hg
    obtain ⟨its, rv, p, hz⟩ := I.tuple hq
    have hl := rv.length
    obtain ⟨f0, f1, f2, f3, f4, f5⟩ := hf it (by simp)
    exact wpAny_pyNext_enum_endD (draws_end (A := X.A.in1) (I.ok.hd hc) it a its.toArray i (by simp; omega)) he ⟨⟨hit, show s.heap.IsTuple a its.toArray from p⟩, rfl⟩ fun h' eb => ⟨rfl, I.turned (t' := s.toks) (fun b o hb q => eb b o hb q) f0 f1 f3 f4 f5⟩
  self := fun A i s Q E st h => let ⟨⟨_, he⟩, _⟩ := st; wpAny_pyIter_enum he h
/-- over a list or a tuple -/
def iEnumA (K : PySem.W.Frag) (ta : TA) : TI := fun σ H R => ta σ H fun vs H1 => ∃ a, vs = [.ref a] ∧ (((∃ xs, SqL K H1 a xs) ∧ R (Ite K a) H1) ∨ ((∃ xs, SqT K H1 a xs) ∧ R (Itet K a) H1))
theorem pi_enumA {X : Cx} {e : Expr} {ta : TA} {p pos tpos : Pos} {elts : List Expr} {kk : Nat} (hg : Gl X "enumerate") (hm : X.mg "enumerate" = none) (ha : PA X [e] ta) (hs : starEach [e] X.env = [(false, eval e X.env)] := by rfl) :
    PI X (.Tuple elts kk tpos) (.Call (.Name "enumerate" p) [e] [] pos) (iEnumA X.K ta) := by
  refine ⟨fun pins s σ H R I h => Call_ (ld_blt I hg hm boot_enumerate (callWith_type1 (thn (ha.run pos pins s σ H _ I h) fun us s1 ⟨vs, H1, I1, r1, a, ex, q⟩ => ?_) hs rfl))⟩
  subst ex
  cases r1 with
  | cons r rr =>
    cases rr
    cases r
    have fp : ∀ b ∈ [s1.heap.objs.size + 1, s1.heap.objs.size], FpOk X pins H1 b := fun b hb => by
      have eb : b = s1.heap.objs.size + 1 ∨ b = s1.heap.objs.size := by simpa using hb
      have hle : s1.heap.objs.size ≤ b := by
        rcases eb with rfl | rfl
        · exact Nat.le_succ _
        · exact Nat.le_refl _
      exact I1.fpOk hle (I1.hok.fresh hle)
    rcases q with ⟨⟨xs, hq⟩, q⟩ | ⟨⟨xs, hq⟩, q⟩
    · obtain ⟨its, rv, p', hz⟩ := I1.list hq
      exact call_enumerate_list p'.isList fun h' he hit hsz hk => wpAny_pyIter_enum he ⟨_, _, _, _, H1, rfl, I1.kept (t' := s1.toks) hk, turn_enum a _ _, ⟨⟨.none, he⟩, hit, Nat.succ_ne_self _⟩, fp, q⟩
    · obtain ⟨its, rv, p', hz⟩ := I1.tuple hq
      have hlt : a < s1.heap.objs.size := by obtain ⟨o, e, _⟩ := p'; exact Heap.lt_size e
      exact enum_call (begins_tuple a its.toArray) (show s1.heap.IsTuple a its.toArray from p') fun h' he hit hk => wpAny_pyIter_enum he
        ⟨_, _, _, _, H1, rfl, I1.kept (t' := s1.toks) hk, turn_enumT a _ _ (Nat.ne_of_gt (Nat.lt_succ_of_lt hlt)) (Nat.ne_of_lt hlt), ⟨⟨.none, he⟩, ⟨_, hit, rfl, rfl⟩, Nat.succ_ne_self _⟩, fp, q⟩
section
variable {K : PySem.W.Frag}
theorem yl_enumT {Hs : Hp} {a : Addr} {xs : List V} {ds : List D} (ha : SqT K Hs a xs) (da : DRs K Hs xs ds) : Yl K (Itet K a) (enumD 0 ds) Hs where
  go := fun i H s hi => by
    rw [enum_len] at hi
    exact ⟨xs, xs[i]'(by rw [da.len]; omega), same_tup s ha, by simp⟩
  stop := fun i H s hi => by
    rw [enum_len] at hi
    exact ⟨xs, same_tup s ha, by rw [da.len]; omega⟩
  yld := fun i x H H' Hs1 _ s s1 y => by
    obtain ⟨T, x1, rfl, hT, rfl, h1⟩ := y
    obtain ⟨d1, e1, r1⟩ := da.ta (h1 xs (same_tup (s.trans s1) ha))
    have ex : Ext H Hs1 (upd H T (.tup [.int (i : Nat), x1])) (upd Hs1 T (.tup [.int (i : Nat), x1])) := Ext.new s1 hT
    refine ⟨.tup [.int (i : Nat), d1], _, ?_, ex, .tup (SqT.of upd_same) (.cons (.int _) (.cons (r1.mono (s.trans ex.b)) .nil))⟩
    rw [enum_get e1, Nat.zero_add]
def xenumA (a : M (List D)) : M (List D) := fun G => bd (a G) fun xs G1 => match xs with
  | [x] => match seqD x with
    | some ds => some (enumD 0 ds, G1)
    | none => none
  | _ => none
theorem ik_enumA {ta : TA} {a : M (List D)} (ha : AOk K ta a) : IOk K (iEnumA K ta) (xenumA a) := fun Fz ba G σ H Hs ds G' q e Q k => by
  obtain ⟨xs, G1, e1, e⟩ := bd_inv e
  refine ha Fz ba G σ H Hs xs _ q e1 _ fun vs H1 Hs1 q1 s1 d => ?_
  split at e
  case h_2 => cases e
  rename_i x
  cases d with
  | cons d1 d2 =>
    cases d2
    cases h : seqD x with
    | none => rw [h] at e; cases e
    | some es =>
      rw [h] at e
      cases e
      cases x with
      | lst xs => cases h; obtain ⟨a1, x1, rfl, l1, r1⟩ := asL_ok d1 rfl; exact ⟨a1, rfl, .inl ⟨⟨_, same_lst q1.sub l1⟩, k _ H1 Hs1 q1 s1 (yl_enum l1 r1)⟩⟩
      | frz xs => cases h; obtain ⟨a1, x1, rfl, l1, r1⟩ := asL_ok d1 rfl; exact ⟨a1, rfl, .inl ⟨⟨_, same_lst q1.sub l1⟩, k _ H1 Hs1 q1 s1 (yl_enum l1 r1)⟩⟩
      | tup xs =>
        cases h
        cases d1 with
        | tup hl hd => exact ⟨_, rfl, .inr ⟨⟨_, same_tup q1.sub hl⟩, k _ H1 Hs1 q1 s1 (yl_enumT hl hd)⟩⟩
      | _ => cases h
end
theorem kpi_enumA {X : Cx} {K : PySem.W.Frag} (hK : X.K = K) {e : Expr} {ta : TA} {p pos tpos : Pos} {elts : List Expr} {kk : Nat} (hg : Gl X "enumerate") (hm : X.mg "enumerate" = none) (ha : PA X [e] ta) (hs : starEach [e] X.env = [(false, eval e X.env)] := by rfl) :
    PI X (.Tuple elts kk tpos) (.Call (.Name "enumerate" p) [e] [] pos) (iEnumA K ta) := hK ▸ pi_enumA hg hm ha hs
end Bk
namespace Bk
open PySem L2 PySem.Builtin PySem.Spec PyProof.Rows
/-- a list (k) or a tuple -/
def SqK (K : PySem.W.Frag) (k : Bool) (a : Addr) (H : Hp) (xs : List V) : Prop := match k with
  | true => SqL K H a xs
  | false => SqT K H a xs
def ItK (k : Bool) (it a : Addr) (i : Nat) (h : Heap) : Prop := match k with
  | true => h.IsListIter it a i
  | false => h.IsTupleIter it a i
def InK (k : Bool) (a : Addr) (its : Array Value) (h : Heap) : Prop := match k with
  | true => h.IsList a its
  | false => h.IsTuple a its
def obK (k : Bool) (a : Addr) : Obj := match k with
  | true => { cls := .type "list_iterator", data := .fields #[.ref a, .int 0 0] }
  | false => { cls := .type "tuple_iterator", data := .fields #[.ref a, .int 0 0] }
theorem draws_k {prog : Program} {w : World} {A : Around} (hh : A.handled = none) (k : Bool) (it a : Addr) (hne : a ≠ it) (its : Array Value) : Draws prog w A it [it, a] its.size (fun i v => its[i]? = some v) (fun i h => ItK k it a i h ∧ InK k a its h) := by
  cases k
  · exact Draws.tuple hh it a hne its
  · exact Draws.list hh it a hne its
theorem drawsL_end {prog : Program} {w : World} {A : Around} (hh : A.handled = none) (it t : Addr) (items : Array Value) (i : Nat) (hi : items.size ≤ i) :
    Draws prog w A it [it, t] i (fun _ _ => True) (fun j h => (h.IsListIter it t j ∧ h.IsList t items) ∧ j = i) where
  live := fun _ _ st => st.1.1.elim fun o ho => ⟨o, ho.1⟩
  frame := fun _ _ _ st hk => ⟨⟨st.1.1.at fun o e => hk it (by simp) o e, st.1.2.at fun o e => hk t (by simp) o e⟩, st.2⟩
  item := fun j s Q E hj st hQ => absurd st.2 (Nat.ne_of_lt hj)
  done := fun s Q E st hE => wpAny_nextOf_list_end hh st.1.1 st.1.2 (Array.getElem?_eq_none hi) hE
theorem draws_stop {prog : Program} {w : World} {A : Around} (hh : A.handled = none) (k : Bool) (it a : Addr) (hne : a ≠ it) (its : Array Value) (i : Nat) {h : Heap} (h1 : ItK k it a i h) (h2 : InK k a its h) :
    ∃ n P St, Draws prog w A it [it, a] n P St ∧ St i h ∧ i ≤ n ∧ (its.size ≤ i → i = n) := by
  by_cases hi : its.size ≤ i
  · cases k
    · exact ⟨_, _, _, draws_end hh it a its i hi, ⟨⟨h1, h2⟩, rfl⟩, Nat.le_refl _, fun _ => rfl⟩
    · exact ⟨_, _, _, drawsL_end hh it a its i hi, ⟨⟨h1, h2⟩, rfl⟩, Nat.le_refl _, fun _ => rfl⟩
  · exact ⟨_, _, _, draws_k hh k it a hne its, ⟨h1, h2⟩, by omega, fun z => absurd z hi⟩
theorem begins_k (k : Bool) (a : Addr) (its : Array Value) : Begins (.ref a) (obK k a) (InK k a its) := by
  cases k
  · exact begins_tuple a its
  · exact begins_list a its
theorem itk_obj {k : Bool} {it a : Addr} {i : Nat} {h : Heap} (h1 : ItK k it a i h) : ∃ o, h.get? it = some o ∧ ∀ v, o.data ≠ .cell v := by
  cases k
  · obtain ⟨o, e, _, d⟩ := h1
    exact ⟨o, e, fun v q => by rw [d] at q; cases q⟩
  · obtain ⟨o, e, _, d⟩ := h1
    exact ⟨o, e, fun v q => by rw [d] at q; cases q⟩
theorem ItK.at {k : Bool} {it a : Addr} {i : Nat} {h h' : Heap} (h1 : ItK k it a i h) (hk : ∀ o, h.get? it = some o → h'.get? it = some o) : ItK k it a i h' := by
  cases k
  · exact Heap.IsTupleIter.at h1 hk
  · exact Heap.IsListIter.at h1 hk
theorem itk_new {k : Bool} {it a : Addr} {h : Heap} (e : h.get? it = some (obK k a)) : ItK k it a 0 h := by
  cases k
  · exact ⟨_, e, rfl, rfl⟩
  · exact ⟨_, e, rfl, rfl⟩
section
variable {X : Cx} {pins : List (Addr × Obj)} {σ : L2.St} {H : Hp} {s : Shared} {k : Bool} {a : Addr} {xs ys : List V}
theorem inv_k (I : Inv X pins σ H s) (h : SqK X.K k a H xs) : ∃ its : List Value, Vals xs its ∧ InK k a its.toArray s.heap ∧ a < s.heap.objs.size := by
  cases k
  · obtain ⟨its, r, p, _⟩ := I.tuple h
    exact ⟨its, r, show s.heap.IsTuple a its.toArray from p, by obtain ⟨o, e, _⟩ := p; exact Heap.lt_size e⟩
  · obtain ⟨its, r, p, _⟩ := I.list h
    exact ⟨its, r, p.isList, p.lt⟩
theorem inj_k (I : Inv X pins σ H s) (h : SqK X.K k a H xs) (h' : SqK X.K k a H ys) : xs = ys := by
  cases k
  · exact I.tuple_inj h h'
  · exact I.list_inj h h'
end
def ItZ (K : PySem.W.Frag) (k l : Bool) (a b : Addr) : It :=
  ⟨fun i H => ∃ (xs ys : List V) (x y : V), SqK K k a H xs ∧ SqK K l b H ys ∧ xs[i]? = some x ∧ ys[i]? = some y,
    fun i H v H' => ∃ T x y, v = .ref T ∧ H T = none ∧ H' = upd H T (.tup [x, y]) ∧ (∀ xs, SqK K k a H xs → xs[i]? = some x) ∧ ∀ ys, SqK K l b H ys → ys[i]? = some y,
    fun i H => ∃ xs ys : List V, SqK K k a H xs ∧ SqK K l b H ys ∧ (xs.length ≤ i ∨ ys.length ≤ i)⟩
theorem turn_zipK {P : Program} {w : World} {K : PySem.W.Frag} {elts : List Expr} {kk : Nat} {tpos : Pos} {k l : Bool} {a b z TI TO i1 i2 : Addr} (D : ZipSep2 z TI TO i1 i2 [i1, a] [i2, b]) (ha : a ≠ i1) (hb : b ≠ i2) :
    Turn P w K (.Tuple elts kk tpos) (ItZ K k l a b) [z, TI, TO, i1, i2] z (fun i h => IsZip h z TI TO .none ∧ IsTupOf2 h TI (.ref i1) (.ref i2) ∧ (∃ x y, IsTupOf2 h TO x y) ∧ ItK k i1 a i h ∧ ItK l i2 b i h) where
  mem := by simp
  obj := fun i h st c hc => by
    obtain ⟨hz, hTI, ⟨x, y, hTO⟩, h1, h2⟩ := st
    have ec : c = z ∨ c = TI ∨ c = TO ∨ c = i1 ∨ c = i2 := by simpa using hc
    rcases ec with rfl | rfl | rfl | rfl | rfl
    · exact ⟨_, hz, fun v q => nomatch q⟩
    · exact ⟨_, hTI, fun v q => nomatch q⟩
    · exact ⟨_, hTO, fun v q => nomatch q⟩
    · exact itk_obj h1
    · exact itk_obj h2
  keep := fun i h h' st kp => by
    obtain ⟨hz, hTI, ⟨x, y, hTO⟩, h1, h2⟩ := st
    exact ⟨kp z (by simp) _ hz, kp TI (by simp) _ hTI, ⟨x, y, kp TO (by simp) _ hTO⟩, h1.at fun o q => kp i1 (by simp) o q, h2.at fun o q => kp i2 (by simp) o q⟩
  item := by
    intro X hP hw hK hc i pins s σ H E I hf st hg
    subst hP hw hK
    obtain ⟨hz, hTI, ⟨x0, y0, hTO⟩, h1, h2⟩ := st
    obtain ⟨xs, ys, x, y, qx, qy, hx, hy⟩ := hg
    obtain ⟨its, rv, p, _⟩ := inv_k I qx
    obtain ⟨its2, rv2, p2, _⟩ := inv_k I qy
    obtain ⟨u, hu, ru⟩ := rv.get hx
    obtain ⟨u2, hu2, ru2⟩ := rv2.get hy
    have hlt : i < its.toArray.size := by simpa using (List.getElem?_eq_some_iff.mp hu).1
    have hlt2 : i < its2.toArray.size := by simpa using (List.getElem?_eq_some_iff.mp hu2).1
    have hzl : z < s.heap.objs.size := Heap.lt_size hz
    have lts : ∀ c ∈ [z, TI, TO, i1, i2], c < s.heap.objs.size := fun c hcm => by
      have ec : c = z ∨ c = TI ∨ c = TO ∨ c = i1 ∨ c = i2 := by simpa using hcm
      rcases ec with rfl | rfl | rfl | rfl | rfl
      · exact hzl
      · exact Heap.lt_size hTI
      · exact Heap.lt_size hTO
      · obtain ⟨_, e1, _⟩ := itk_obj h1; exact Heap.lt_size e1
      · obtain ⟨_, e2, _⟩ := itk_obj h2; exact Heap.lt_size e2
    refine wpAny_pyNext_zipD2_item D (draws_k (A := X.A.in1) (I.ok.hd hc) k i1 a ha its.toArray) (draws_k (A := X.A.in1) (I.ok.hd hc) l i2 b hb its2.toArray) hz hTI hTO ⟨h1, p⟩ ⟨h2, p2⟩ hlt hlt2 fun v1 v2 h' tk e1 e2 z' TO' st1 st2 hT hsz hk => ?_
    have ev1 : v1 = u := by
      have q : its[i]? = some v1 := by simpa using e1
      rw [hu] at q; cases q; rfl
    have ev2 : v2 = u2 := by
      have q : its2[i]? = some v2 := by simpa using e2
      rw [hu2] at q; cases q; rfl
    subst ev1 ev2
    refine ⟨_, rfl, wpAny_letOwnedTupleGo_zip (s := { s with heap := h', toks := tk }) z' fun h'' z'' sb => ?_⟩
    have hT2 : h''.get? s.heap.objs.size = some { cls := .type "tuple", data := .seq #[v1, v2] } := (sb.2 _ (Nat.ne_of_gt hzl)).trans hT
    have new : ObjOk X.prog X.w (upd H s.heap.objs.size (.tup [x, y])) h'' s.heap.objs.size (.tup [x, y]) := ⟨by show 2 ≤ sizeLine; decide, [v1, v2], .cons ru (.cons ru2 .nil), ⟨_, hT2, rfl, _, rfl⟩⟩
    have I1 : Inv X pins σ (upd H s.heap.objs.size (.tup [x, y])) { s with heap := h'', toks := tk } :=
      I.turnedNew (ch := [z, TI, TO, i1, i2]) (fun c o hcb q => (sb.2 c (fun q' => hcb (by simp [q']))).trans (hk c o (fun q' => hcb (by simp [q'])) (fun q' => hcb (by simp [q'])) (fun q' => hcb (by simp [q'])) (fun q' => hcb (by simp [q'])) q)) hf (Nat.le_refl _) new
    have n1 : i1 ≠ z := fun q => D.zf1 (q ▸ D.mem1)
    have n2 : i2 ≠ z := fun q => D.zf2 (q ▸ D.mem2)
    refine ⟨.ref s.heap.objs.size, _, I1, rfl, ⟨_, x, y, rfl, I.hok.fresh (Nat.le_refl _), rfl, fun l' hl => by rw [inj_k I hl qx]; exact hx, fun l' hl => by rw [inj_k I hl qy]; exact hy⟩, ⟨z'', ?_, ⟨v1, v2, (sb.2 _ D.TOz).trans TO'⟩, st1.1.at fun o q => (sb.2 _ n1).trans q, st2.1.at fun o q => (sb.2 _ n2).trans q⟩, fun c hcm => ?_⟩
    · exact (sb.2 _ D.TIz).trans (hk _ _ D.TIz D.TITO D.TIi1 D.TIi2 hTI)
    · rw [upd_ne (Nat.ne_of_lt (lts c hcm))]
      exact (hf c hcm).1
  done := by
    intro X hP hw hK hc i pins s σ H E I hf st hg
    subst hP hw hK
    obtain ⟨hz, hTI, ⟨x0, y0, hTO⟩, h1, h2⟩ := st
    obtain ⟨xs, ys, qx, qy, hend⟩ := hg
    obtain ⟨its, rv, p, _⟩ := inv_k I qx
    obtain ⟨its2, rv2, p2, _⟩ := inv_k I qy
    have l1 := rv.length
    have l2 := rv2.length
    obtain ⟨n1, P1, St1, D1, s1, le1, e1⟩ := draws_stop (prog := X.prog) (w := X.w) (A := X.A.in1) (I.ok.hd hc) k i1 a ha its.toArray i h1 p
    obtain ⟨n2, P2, St2, D2, s2, le2, e2⟩ := draws_stop (prog := X.prog) (w := X.w) (A := X.A.in1) (I.ok.hd hc) l i2 b hb its2.toArray i h2 p2
    exact wpAny_pyNext_zipD2_end D D1 D2 hz hTI hTO s1 s2 le1 le2 (by
      rcases hend with q | q
      · exact .inl (e1 (by simp; omega))
      · exact .inr (e2 (by simp; omega))) fun h' tk hk => ⟨rfl, I.turnedL (ch := [z, TI, TO, i1, i2]) (fun c o hcb q => hk c o (fun q' => hcb (by simp [q'])) (fun q' => hcb (by simp [q'])) (fun q' => hcb (by simp [q'])) (fun q' => hcb (by simp [q'])) q) hf⟩
  self := fun A i s Q E st h => wpAny_pyIter_zip st.1 h
def iZipA (K : PySem.W.Frag) (ta : TA) : TI := fun σ H R => ta σ H fun vs H1 => ∃ k l a b xs ys, vs = [.ref a, .ref b] ∧ SqK K k a H1 xs ∧ SqK K l b H1 ys ∧ R (ItZ K k l a b) H1
theorem pi_zipA {X : Cx} {e e2 : Expr} {ta : TA} {p pos tpos : Pos} {elts : List Expr} {kk : Nat} (hg : Gl X "zip") (hm : X.mg "zip" = none) (ha : PA X [e, e2] ta)
    (hs : starEach [e, e2] X.env = (false, eval e X.env) :: starEach [e2] X.env := by rfl) (hpl : (backTo pos (starEach [e2] X.env)).any (·.1) = false := by rfl) :
    PI X (.Tuple elts kk tpos) (.Call (.Name "zip" p) [e, e2] [] pos) (iZipA X.K ta) := by
  refine ⟨fun pins s σ H R I h => Call_ (ld_blt I hg hm PyProof.Rows.boot_zip (callWith_type1 (thn (ha.run pos pins s σ H _ I h) fun us s1 ⟨vs, H1, I1, r1, k, l, a, b, xs, ys, ex, qx, qy, q⟩ => ?_) hs hpl))⟩
  subst ex
  cases r1 with
  | cons r rr =>
    cases rr with
    | cons r' rr =>
      cases rr
      cases r
      cases r'
      obtain ⟨its, rv, p1, la⟩ := inv_k I1 qx
      obtain ⟨its2, rv2, p2, lb⟩ := inv_k I1 qy
      refine zip_begins2 (begins_k k a its.toArray) (begins_k l b its2.toArray) p1 p2 fun h' hz hTI hTO h1 h2 hsz hk => wpAny_pyIter_zip hz ?_
      have sep := zip_sep2 (N := s1.heap.objs.size) (fp1 := [a]) (fp2 := [b]) (by simpa using la) (by simpa using lb)
      refine ⟨_, _, _, _, H1, rfl, I1.kept (t' := s1.toks) hk, turn_zipK sep (Nat.ne_of_lt la) (Nat.ne_of_lt (Nat.lt_succ_of_lt lb)), ⟨hz, hTI, ⟨_, _, hTO⟩, itk_new h1, itk_new h2⟩, fun c hcm => ?_, q⟩
      have ec : c = s1.heap.objs.size + 4 ∨ c = s1.heap.objs.size + 2 ∨ c = s1.heap.objs.size + 3 ∨ c = s1.heap.objs.size ∨ c = s1.heap.objs.size + 1 := by simpa using hcm
      have hle : s1.heap.objs.size ≤ c := by
        rcases ec with rfl | rfl | rfl | rfl | rfl
        · exact Nat.le_add_right _ _
        · exact Nat.le_add_right _ _
        · exact Nat.le_add_right _ _
        · exact Nat.le_refl _
        · exact Nat.le_add_right _ _
      exact I1.fpOk hle (I1.hok.fresh hle)
theorem kpi_zipA {X : Cx} {K : PySem.W.Frag} (hK : X.K = K) {e e2 : Expr} {ta : TA} {p pos tpos : Pos} {elts : List Expr} {kk : Nat} (hg : Gl X "zip") (hm : X.mg "zip" = none) (ha : PA X [e, e2] ta)
    (hs : starEach [e, e2] X.env = (false, eval e X.env) :: starEach [e2] X.env := by rfl) (hpl : (backTo pos (starEach [e2] X.env)).any (·.1) = false := by rfl) :
    PI X (.Tuple elts kk tpos) (.Call (.Name "zip" p) [e, e2] [] pos) (iZipA K ta) := hK ▸ pi_zipA hg hm ha hs hpl
section
variable {K : PySem.W.Frag}
theorem same_k {k : Bool} {a : Addr} {H H' : Hp} {xs : List V} (s : Same H H') (h : SqK K k a H xs) : SqK K k a H' xs := by
  cases k
  · exact same_tup s h
  · exact same_lst s h
theorem seqD_ok {H : Hp} {v : V} {d : D} {ds : List D} (h : DR K H v d) (e : seqD d = some ds) : ∃ k a xs, v = .ref a ∧ SqK K k a H xs ∧ DRs K H xs ds := by
  cases d with
  | tup xs =>
    cases e
    cases h with
    | tup hl hd => exact ⟨false, _, _, rfl, hl, hd⟩
  | lst xs => obtain ⟨a, vs, z, hl, hd⟩ := asL_ok h e; exact ⟨true, a, vs, z, hl, hd⟩
  | frz xs => obtain ⟨a, vs, z, hl, hd⟩ := asL_ok h e; exact ⟨true, a, vs, z, hl, hd⟩
  | _ => cases e
theorem yl_zipA {Hs : Hp} {k l : Bool} {a b : Addr} {xs ys : List V} {ds es : List D} (ha : SqK K k a Hs xs) (hb : SqK K l b Hs ys) (da : DRs K Hs xs ds) (db : DRs K Hs ys es) : Yl K (ItZ K k l a b) ((ds.zip es).map fun p => .tup [p.1, p.2]) Hs where
  go := fun i H s hi => by
    rw [List.length_map, List.length_zip] at hi
    exact ⟨xs, ys, xs[i]'(by rw [da.len]; omega), ys[i]'(by rw [db.len]; omega), same_k s ha, same_k s hb, by simp, by simp⟩
  stop := fun i H s hi => by
    rw [List.length_map, List.length_zip] at hi
    exact ⟨xs, ys, same_k s ha, same_k s hb, by rw [da.len, db.len]; omega⟩
  yld := fun i x H H' Hs1 _ s s1 y => by
    obtain ⟨T, x1, y1, rfl, hT, rfl, h1, h2⟩ := y
    obtain ⟨d1, e1, r1⟩ := da.ta (h1 xs (same_k (s.trans s1) ha))
    obtain ⟨d2, e2, r2⟩ := db.ta (h2 ys (same_k (s.trans s1) hb))
    have ex : Ext H Hs1 (upd H T (.tup [x1, y1])) (upd Hs1 T (.tup [x1, y1])) := Ext.new s1 hT
    refine ⟨.tup [d1, d2], _, ?_, ex, .tup (SqT.of upd_same) (.cons (r1.mono (s.trans ex.b)) (.cons (r2.mono (s.trans ex.b)) .nil))⟩
    rw [List.getElem?_map, zip_get e1 e2]
    rfl
def xzipA (a : M (List D)) : M (List D) := fun G => bd (a G) fun xs G1 => match xs with
  | [x, y] => match seqD x, seqD y with
    | some ds, some es => some ((ds.zip es).map fun p => .tup [p.1, p.2], G1)
    | _, _ => none
  | _ => none
theorem ik_zipA {ta : TA} {a : M (List D)} (ha : AOk K ta a) : IOk K (iZipA K ta) (xzipA a) := fun Fz ba G σ H Hs ds G' q e Q k => by
  obtain ⟨xs, G1, e1, e⟩ := bd_inv e
  refine ha Fz ba G σ H Hs xs _ q e1 _ fun vs H1 Hs1 q1 s1 d => ?_
  split at e
  case h_2 => cases e
  split at e
  case h_2 => cases e
  rename_i h1 h2
  cases e
  cases d with
  | cons d1 d2 =>
    cases d2 with
    | cons d2 d3 =>
      cases d3
      obtain ⟨k1, a1, x1, rfl, l1, r1⟩ := seqD_ok d1 h1
      obtain ⟨k2, a2, x2, rfl, l2, r2⟩ := seqD_ok d2 h2
      exact ⟨k1, k2, a1, a2, x1, x2, rfl, same_k q1.sub l1, same_k q1.sub l2, k _ H1 Hs1 q1 s1 (yl_zipA l1 l2 r1 r2)⟩
end
end Bk
namespace Bk
open PySem L2
theorem cAttrs_nd (c : Nat) : (cAttrs c).Nodup := by
  match c with
  | 0 => decide +kernel
  | 1 => decide +kernel
  | 2 => decide +kernel
  | 3 => decide +kernel
  | 4 => decide +kernel
  | n + 5 => show (cAttrs 5).Nodup; decide +kernel
section
variable {K : PySem.W.Frag} {H : Hp}
theorem fs_get : ∀ {fs : List (PySem.Str × V)} {i : Nat} {v : V}, (fs.map (·.1)).Nodup → (fs.map (·.2))[i]? = some v → ∀ f, (fs.map (·.1))[i]? = some f → fs.lookup f = some v
  | [], _, _, _, h, _, _ => by simp at h
  | (g, x) :: r, 0, _, _, h, f, e => by
    simp at h e
    subst h e
    simp [List.lookup]
  | (g, x) :: r, i + 1, v, nd, h, f, e => by
    simp only [List.map_cons, List.getElem?_cons_succ] at h e
    rw [List.map_cons, List.nodup_cons] at nd
    have hne : f ≠ g := fun z => nd.1 (z ▸ List.mem_of_getElem? e)
    have hb : (f == g) = false := beq_eq_false_iff_ne.mpr hne
    show List.lookup f ((g, x) :: r) = some v
    simp only [List.lookup, hb]
    exact fs_get nd.2 h f e
theorem fs_none {fs : List (PySem.Str × V)} {f : PySem.Str} (h : f ∉ fs.map (·.1)) : fs.lookup f = none := by
  induction fs with
  | nil => rfl
  | cons p r ih =>
    obtain ⟨g, x⟩ := p
    rw [List.map_cons, List.mem_cons, not_or] at h
    have hb : (f == g) = false := beq_eq_false_iff_ne.mpr h.1
    simp only [List.lookup, hb]
    exact ih h.2
theorem putF_old : ∀ {fs : List (PySem.Str × V)} {i : Nat} {f : PySem.Str} {v : V}, (fs.map (·.1)).Nodup → (fs.map (·.1))[i]? = some f → (putF f v fs).map (·.1) = fs.map (·.1) ∧ (putF f v fs).map (·.2) = (fs.map (·.2)).set i v
  | [], _, _, _, _, h => by simp at h
  | (g, x) :: r, 0, f, v, _, h => by
    simp at h
    subst h
    simp only [putF, if_true]
    exact ⟨rfl, rfl⟩
  | (g, x) :: r, i + 1, f, v, nd, h => by
    simp only [List.map_cons, List.getElem?_cons_succ] at h
    rw [List.map_cons, List.nodup_cons] at nd
    have hne : g ≠ f := fun z => nd.1 (z ▸ List.mem_of_getElem? h)
    simp only [putF, if_neg hne]
    obtain ⟨i1, i2⟩ := putF_old (v := v) nd.2 h
    exact ⟨by rw [List.map_cons, i1]; rfl, by rw [List.map_cons, i2]; rfl⟩
theorem putF_new : ∀ {fs : List (PySem.Str × V)} {f : PySem.Str} {v : V}, f ∉ fs.map (·.1) → (putF f v fs).map (·.1) = fs.map (·.1) ++ [f] ∧ (putF f v fs).map (·.2) = fs.map (·.2) ++ [v]
  | [], _, _, _ => ⟨rfl, rfl⟩
  | (g, x) :: r, f, v, h => by
    rw [List.map_cons, List.mem_cons, not_or] at h
    simp only [putF, if_neg (fun z : g = f => h.1 z.symm)]
    obtain ⟨i1, i2⟩ := putF_new (v := v) h.2
    exact ⟨by rw [List.map_cons, i1]; rfl, by rw [List.map_cons, i2]; rfl⟩
theorem take_nd {c n : Nat} : ((cAttrs c).take n).Nodup := List.Nodup.sublist (List.take_sublist _ _) (cAttrs_nd c)
theorem take_at {c n i : Nat} {f : PySem.Str} (h : (cAttrs c)[i]? = some f) (hi : i < n) : ((cAttrs c).take n)[i]? = some f := by
  rw [List.getElem?_take, if_pos hi]
  exact h
/-- what is known of a class of the text -/
structure ClT (K : PySem.W.Frag) (mg : PySem.Str → Option Value) (c : Nat) where
  C : Addr
  mg : mg (cName c) = some (.ref C)
  at_ : CAt K c C
  cls : Cls K C
  na : ∀ f ∈ cAttrs c, NoAttr K C f
variable {mg : PySem.Str → Option Value}
/-- o.f, the i-th attribute of an instance of the class c -/
def xfld (c i : Nat) (a : M R) : M R := fun G => bd (a G) fun x G1 => match x.d with
  | .obj c' ds => if c' = c then (match ds[i]? with | some d => some (.im d, G1) | none => none) else none
  | _ => none
theorem gk_fld {c i : Nat} {f : PySem.Str} (T : ClT K mg c) (hf : (cAttrs c)[i]? = some f) {ta : TE} {a : M R} (ha : GOk K ta a) : GOk K (tFld K ta f) (xfld c i a) := fun Fz ba G σ H Hs res G' q e0 Q k => by
  obtain ⟨x, G1, e1, e⟩ := bd_inv e0
  refine ha.im q e1 fun v H1 Hs1 q1 s1 d1 => ?_
  cases hd : x.d with
  | obj c' ds =>
    rw [hd] at e d1
    simp only at e
    split at e
    case isFalse => cases e
    rename_i hc
    subst hc
    split at e
    case h_2 => cases e
    rename_i d hi
    cases e
    cases d1 with
    | obj hC hH hn hv hs =>
      subst hv
      cases hC.eq T.at_
      obtain ⟨w, w1, w2⟩ := hs.at hi
      have hlt : i < ds.length := (List.getElem?_eq_some_iff.mp hi).1
      refine ⟨_, _, _, _, w, rfl, q1.sub _ _ hH, T.cls, T.na f (List.mem_of_getElem? hf), fs_get ?_ w1 f ?_, k w H1 Hs1 q1 s1 w2⟩
      · rw [hn]; exact take_nd
      · rw [hn]; exact take_at hf hlt
  | _ => rw [hd] at e; cases e
/-- the i-th attribute of the instance that the name owns -/
def xfldv (j c i : Nat) : M R := fun G => match G[j]? with
  | some e => match e.mu with
    | some (.o c' ds) => if c' = c then (match ds[i]? with | some d => some (.im d, G) | none => none) else none
    | _ => none
  | none => none
theorem gk_fldv {j c i : Nat} {f : PySem.Str} (T : ClT K mg c) (hf : (cAttrs c)[i]? = some f) : GOk K (tFld K (tVar j) f) (xfldv j c i) := fun Fz ba G σ H Hs res G' q e Q k => by
  unfold xfldv at e
  cases h : G[j]? with
  | none => simp only [h] at e; cases e
  | some en =>
    cases h0 : en.mu with
    | none => simp only [h, h0] at e; cases e
    | some mm =>
     cases mm with
     | l _ => simp only [h, h0] at e; cases e
     | o c' ds =>
      simp only [h, h0] at e
      split at e
      case isFalse => cases e
      rename_i hc
      subst hc
      split at e
      case h_2 => cases e
      rename_i d hi
      cases e
      obtain ⟨l, o, g1, g2, g3, g4, C, dx, fs, hC, rfl, hn, hs⟩ := q.mu j en _ h h0
      cases hC.eq T.at_
      obtain ⟨w, w1, w2⟩ := hs.at hi
      have hlt : i < ds.length := (List.getElem?_eq_some_iff.mp hi).1
      refine ⟨_, g1, _, _, _, _, w, rfl, g2, T.cls, T.na f (List.mem_of_getElem? hf), fs_get ?_ w1 f ?_, k w H Hs q (Same.refl _) w2⟩
      · rw [hn]; exact take_nd
      · rw [hn]; exact take_at hf hlt
/-- the i-th attribute stored -/
def putO (i : Nat) (x : D) (ds : List D) : Option (List D) := if i < ds.length then some (ds.set i x) else if i = ds.length then some (ds ++ [x]) else none
def putA (j c i : Nat) (x : D) (G : Gam) : Option Gam := match G[j]? with
  | some e => match e.mu with
    | some (.o c' ds) => if c' = c then (match putO i x ds with | some es => some (G.set j (e.with (.o c es))) | none => none) else none
    | _ => none
  | none => none
theorem cAttrs_few (c : Nat) : (cAttrs c).length ≤ 6 := by
  match c with
  | 0 => decide
  | 1 => decide
  | 2 => decide
  | 3 => decide
  | 4 => decide
  | n + 5 => show (cAttrs 5).length ≤ 6; decide
theorem putA_ok {j c i : Nat} {f : PySem.Str} (T : ClT K mg c) (hf : (cAttrs c)[i]? = some f) {Fz : Hp} {ba : Nat → Addr} {G G' : Gam} {σ : L2.St} {H Hs : Hp} {v : V} {d : D} (q : Rel K Fz ba G σ H Hs) (hd : DR K Hs v d) (e : putA j c i d G = some G') :
    ∃ a dx fs, σ[j]? = some (some (.ref a)) ∧ H a = some (.ins T.C dx fs) ∧ fs.length < 1000 ∧ Rel K Fz ba G' σ (upd H a (.ins T.C dx (putF f v fs))) Hs := by
  unfold putA at e
  cases h : G[j]? with
  | none => simp only [h] at e; cases e
  | some en =>
    cases h0 : en.mu with
    | none => simp only [h, h0] at e; cases e
    | some mm =>
     cases mm with
     | l _ => simp only [h, h0] at e; cases e
     | o c' ds =>
      simp only [h, h0] at e
      split at e
      case isFalse => cases e
      rename_i hc
      subst hc
      split at e
      case h_2 => cases e
      rename_i es hp
      cases e
      obtain ⟨l, o, g1, g2, g3, g4, C, dx, fs, hC, rfl, hn, hs⟩ := q.mu j en _ h h0
      cases hC.eq T.at_
      have hlen : fs.length = ds.length := by
        have z := hs.len
        rw [List.length_map] at z
        exact z
      have hi6 : (cAttrs c').length ≤ 6 := cAttrs_few c'
      have hle : ds.length ≤ 6 := by
        have z := congrArg List.length hn
        rw [List.length_map, List.length_take, hlen] at z
        omega
      refine ⟨l, dx, fs, g1, g2, by omega, ?_⟩
      have hiA : i < (cAttrs c').length := (List.getElem?_eq_some_iff.mp hf).1
      refine q.mut h h0 g1 (extB_upd q.sub g3) upd_same g3 ⟨_, dx, putF f v fs, hC, rfl, ?_⟩
      unfold putO at hp
      have nd : (fs.map (·.1)).Nodup := by rw [hn]; exact take_nd
      split at hp
      · rename_i hlt
        cases hp
        obtain ⟨p1, p2⟩ := putF_old (v := v) nd (by rw [hn]; exact take_at hf hlt)
        rw [p1, p2, List.length_set]
        exact ⟨hn, DRs.set hd i hs⟩
      · split at hp
        case isFalse => cases hp
        rename_i hlt heq
        cases hp
        have hnew : f ∉ fs.map (·.1) := by
          rw [hn]
          intro hm
          obtain ⟨j', hj⟩ := List.mem_iff_getElem?.mp hm
          have hj1 : j' < ds.length := by
            have z := (List.getElem?_eq_some_iff.mp hj).1
            rw [List.length_take] at z
            omega
          rw [List.getElem?_take, if_pos hj1] at hj
          have hj2 := (List.getElem?_eq_some_iff.mp hj)
          have hf2 := (List.getElem?_eq_some_iff.mp hf)
          obtain ⟨a1, a2⟩ := hj2
          obtain ⟨b1, b2⟩ := hf2
          have z : j' = i := (List.getElem_inj (cAttrs_nd c')).mp (a2.trans b2.symm)
          omega
        obtain ⟨p1, p2⟩ := putF_new (v := v) hnew
        rw [p1, p2]
        refine ⟨?_, hs.app (.cons hd .nil)⟩
        rw [hn, List.length_append, List.length_singleton, List.take_succ, ← heq, hf]
        rfl
def xsetf (j c i : Nat) (a : M R) : MS := fun G => bd (a G) fun x G1 => match putA j c i x.d G1 with
  | some G2 => some (.nx, G2)
  | none => none
theorem sk_setf {j c i : Nat} {f : PySem.Str} (T : ClT K mg c) (hf : (cAttrs c)[i]? = some f) {ta : TE} {a : M R} (ha : GOk K ta a) : SOk K (sFld K (tVar j) ta f) (xsetf j c i a) := fun Fz ba G σ H Hs fl G' q e Dn p => by
  obtain ⟨x, G1, e1, e⟩ := bd_inv e
  cases h : putA j c i x.d G1 with
  | none => rw [h] at e; cases e
  | some G2 =>
    rw [h] at e
    cases e
    refine ha.im q e1 fun v H1 Hs1 q1 s1 d1 => ?_
    obtain ⟨b, dx, fs, g1, g2, g3, g4⟩ := putA_ok T hf q1 d1 h
    exact ⟨_, g1, b, T.C, dx, fs, rfl, g2, T.cls, T.na f (List.mem_of_getElem? hf), g3, p σ _ Hs1 g4 s1⟩
end
end Bk
namespace Bk
open PySem L2
section
variable {X : Cx} {CX : CXT} {k : Nat} {C g : Addr} {fd : FuncData} {ps : List PySem.Str} {sp : Sp} {E : XK}
/-- an instance of the class at C -/
def IsIn (C : Addr) (H : Hp) (x : V) : Prop := ∃ a dx fs, x = .ref a ∧ H a = some (.ins C dx fs)
def rBin (C : Addr) (sp : Sp) (E : XK) : R2 := fun x y H Q => IsIn C H x ∧ IsIn C H y ∧ sp [x, y] H Q E
def rUnO (C : Addr) (sp : Sp) (E : XK) : V → Hp → VK → Prop := fun x H Q => IsIn C H x ∧ sp [x] H Q E
theorem inst_at {pins : List (Addr × Obj)} {σ : St} {H : Hp} {s : Shared} {a dx : Addr} {fs : List (PySem.Str × V)} (I : Inv X pins σ H s) (e : H a = some (.ins C dx fs)) :
    ∃ od, PySem.W.InstAt s.heap a (PySem.W.instObj C dx) C (some od) := by
  obtain ⟨mA, O, _⟩ := ins_get I.hok e
  obtain ⟨od, J, _⟩ := O.look
  exact ⟨od, J⟩
theorem back_cmp {pins : List (Addr × Obj)} {σ : St} {Q : VK} {v : Value} {s' : Shared} (h : EP X pins σ Q v s') : PySem.W.CmpBack (EP X pins σ Q) v s' := by
  obtain ⟨z, H', I', rz, q⟩ := h
  exact SlX.cmpback rz ⟨z, H', I', rz, q⟩
theorem op_bin {op : Operator} (hc : PySem.W.selfFirst X.K C = true) (hs : PySem.W.findIn X.K (.ref C) (PySem.dunder op.info.2) = some (some (.ref g))) (hf : PySem.W.isFn X.K (.ref g) = true)
    (F : FnOk X.prog X.w X.K X.mg X.base CX k g fd ps sp) (hr : Room k X.A) (hb : Binds X.K fd ps []) (hx : Passes CX X E) : OpR X (binaryOp op) (rBin C sp E) := by
  intro pins s σ H x y v u Q I rx ry h
  obtain ⟨⟨a, dx, fs, rfl, ha⟩, ⟨b, dy, gs, rfl, hb'⟩, q⟩ := h
  cases (show v = Value.ref a from rx)
  cases (show u = Value.ref b from ry)
  obtain ⟨od, J⟩ := inst_at I ha
  obtain ⟨od', J'⟩ := inst_at I hb'
  obtain ⟨m, hF⟩ := I.fr
  refine PySem.W.binop_K hF I.ok.mod.kin J J'.type hc hs hf ?_
  exact wpAny_mono (run_fn (us := [.ref a, .ref b]) (vs := [.ref a, .ref b]) F hr hb .nil hx I (.cons rfl (.cons rfl .nil)) q) (fun w s' z => back_cmp z) fun _ _ x => x
theorem un_own (hs : PySem.W.findIn X.K (.ref C) "__neg__" = some (some (.ref g))) (hf : PySem.W.isFn X.K (.ref g) = true)
    (F : FnOk X.prog X.w X.K X.mg X.base CX k g fd ps sp) (hr : Room k X.A) (hb : Binds X.K fd ps []) (hx : Passes CX X E) : UnR X (unaryOp .USub) (rUnO C sp E) := by
  intro pins s σ H x v Q I rx h
  obtain ⟨⟨a, dx, fs, rfl, ha⟩, q⟩ := h
  cases (show v = Value.ref a from rx)
  obtain ⟨od, J⟩ := inst_at I ha
  obtain ⟨m, hF⟩ := I.fr
  refine PySem.W.ksp_neg hF I.ok.mod.kin J hs hf ?_
  exact run_fn (us := [.ref a]) (vs := [.ref a]) F hr hb .nil hx I (.cons rfl .nil) q
theorem op_eqO (hs : PySem.W.findIn X.K (.ref C) "__eq__" = some (some (.ref g))) (hf : PySem.W.isFn X.K (.ref g) = true) (hn : PySem.W.notFirst X.K C (.ref C) = true)
    (F : FnOk X.prog X.w X.K X.mg X.base CX k g fd ps sp) (hr : Room k X.A) (hb : Binds X.K fd ps []) (hx : Passes CX X E) : OpR X (compareOp .Eq) (rBin C sp E) := by
  intro pins s σ H x y v u Q I rx ry h
  obtain ⟨⟨a, dx, fs, rfl, ha⟩, ⟨b, dy, gs, rfl, hb'⟩, q⟩ := h
  cases (show v = Value.ref a from rx)
  cases (show u = Value.ref b from ry)
  obtain ⟨od, J⟩ := inst_at I ha
  obtain ⟨od', J'⟩ := inst_at I hb'
  obtain ⟨m, hF⟩ := I.fr
  show wpAny (model X.prog X.w) X.A (richCompare .Eq (.ref a) (.ref b)) _ _ _
  refine PySem.W.cmp_K (op := .Eq) (tb := .ref C) hr.units0 hF I.ok.mod.kin J J'.type hn hs hf ?_
  exact wpAny_mono (run_fn (us := [.ref a, .ref b]) (vs := [.ref a, .ref b]) F hr hb .nil hx I (.cons rfl (.cons rfl .nil)) q) (fun w s' z => back_cmp z) fun _ _ x => x
end
section
open PySem.W
variable {M : Model} {A : Around} {E' : Value → Shared → Prop} {s : Shared} {K : Frag} {x y C g : Addr} {ox : Obj} {od : Option Obj} {nm : PySem.Str} {id : String}
theorem ifb_blt {args : List Value} {Q : Option Value → Shared → Prop} (X : K.In s.heap) (I : InstAt s.heap x ox C od) (hs : findIn K (.ref C) nm = some (some (.builtin id))) (hb : ∀ v, bindSpecial (.builtin id) v = pure (.builtin id, [v]))
    (h : wpAny M A (call (.builtin id) (.ref x :: args)) (fun v => Q (some v)) E' s) : wpAny M A (callSpecialIfBound? (.ref x) nm args) Q E' s := by
  have key : wpAny M A (call (.builtin id) ([Value.ref x] ++ args) >>= fun v => pure (some v)) Q E' s := wpAny_bind (wpAny_mono h (fun _ _ z => wpAny_pure z) fun _ _ z => z)
  unfold callSpecialIfBound? bindSpecialIfBound?
  refine wpAny_holding (wpAny_bind (wpAny_bind (wpAny_bind ?_)))
  refine I.type.here ?_
  refine (looks_findIn X hs).here ?_
  simp only [hb]
  refine wpAny_bind (wpAny_askSetting (wpAny_ite ?_))
  split
  · refine wpAny_bind (wpAny_pure ?_)
    exact wpAny_pure key
  · refine wpAny_tryCatch (wpAny_bind (wpAny_pure ?_))
    exact wpAny_pure key
end
section
open PySem.W
variable {prog : Program} {w : World} {A : Around} {E' : Value → Shared → Prop} {s : Shared} {K : Frag} {x y C g : Addr} {ox oy : Obj} {od od' : Option Obj}
/-- what == told, the other way about -/
def NotBack (Q : Value → Shared → Prop) (v : Value) (s' : Shared) : Prop := ∃ b, v = .bool b ∧ Q (.bool (!b)) s'
theorem ne_blt {Q : Value → Shared → Prop} (hu : A.in1.units < cLine) (X : K.In s.heap) (I : InstAt s.heap x ox C od) (hm : mroIn K C (.type "object") = some true) (he : findIn K (.ref C) "__eq__" = some (some (.ref g))) (hf : isFn K (.ref g) = true)
    (h : wpAny (model prog w) A.in1 (call (.ref g) [.ref x, .ref y]) (NotBack Q) E' s) : wpAny (model prog w) A (call (.builtin "object.__ne__") [.ref x, .ref y]) Q E' s := by
  refine wpAny_call (codeAny_call_builtin PySem.F.slot_object_ne.plain PySem.F.entry_object_ne ?_)
  refine check_slot (i := "object.__ne__") (owner := "object") (n := "__ne__") (by decide +kernel) (by decide +kernel) (I.type.andThen (looks_mroIn X hm)) (PySem.F.args_object_ne_2 _ _) ?_
  unfold Builtin.«object.__ne__»
  refine wpAny_bind (m := slotArgs "__ne__" 1 _) (wpAny_pure ?_)
  refine wpAny_bind (wpAny_cRoomFor hu ?_)
  refine wpAny_bind (m := callSpecialIfBound? (.ref x) (Str.ofString "__eq__") [.ref y]) (ifBound_K X I he hf (wpAny_mono h (fun r s' hq => ?_) fun _ _ z => z))
  obtain ⟨b, rfl, hq⟩ := hq
  refine wpAny_bind (wpAny_truthy_bool ?_)
  exact wpAny_pure hq
theorem rc_ne {Q : Value → Shared → Prop} (hu : A.units + 2 < cLine) (X : K.In s.heap) (I : InstAt s.heap x ox C od) (I' : InstAt s.heap y oy C od') (hm : mroIn K C (.type "object") = some true) (hn : findIn K (.ref C) "__ne__" = some (some (.builtin "object.__ne__")))
    (he : findIn K (.ref C) "__eq__" = some (some (.ref g))) (hf : isFn K (.ref g) = true)
    (h : wpAny (model prog w) A.in1 (call (.ref g) [.ref x, .ref y]) (NotBack Q) E' s) : wpAny (model prog w) A (richCompare .NotEq (.ref x) (.ref y)) Q E' s := by
  have one : wpAny (model prog w) A (tryCompare (.ref x) "__ne__" (.ref y)) (fun r s' => ∃ v, r = some v ∧ Q v s') E' s := by
    unfold tryCompare
    have two : wpAny (model prog w) A (callSpecialIfBound? (.ref x) "__ne__" [.ref y]) (fun r s' => ∃ b, r = some (.bool b) ∧ Q (.bool b) s') E' s := by
      refine ifb_blt X I hn PySem.F.slot_object_ne.bind (ne_blt (by show A.units + 1 < cLine; omega) X I hm he hf (wpAny_mono h (fun v s' hv => ?_) fun _ _ z => z))
      obtain ⟨b, rfl, hq⟩ := hv
      exact ⟨b, rfl, !b, rfl, hq⟩
    refine wpAny_bind (wpAny_mono two (fun r s' hr => ?_) fun _ _ z => z)
    obtain ⟨b, rfl, hq⟩ := hr
    exact wpAny_pure ⟨_, rfl, hq⟩
  unfold richCompare
  simp only [oneThing_ref]
  refine wpAny_holding (wpAny_bind (wpAny_cRoomFor (by omega) ?_))
  refine wpAny_bind (I.type.here ?_)
  refine wpAny_bind (I'.type.here ?_)
  rw [show (Value.ref C != Value.ref C) = false from by simp]
  refine wpAny_bind (wpAny_pure ?_)
  simp only [Bool.false_eq_true, if_false]
  refine wpAny_bind (wpAny_mono one (fun r s' z => ?_) fun _ _ z => z)
  obtain ⟨v, rfl, hq⟩ := z
  exact wpAny_pure hq
end
end Bk
namespace Bk
open PySem L2
section
variable {X : Cx} {CX : CXT} {k : Nat} {C g : Addr} {fd : FuncData} {ps : List PySem.Str} {sp : Sp} {E : XK}
/-- the callee runs, one below -/
theorem run_in {A : Around} {pins : List (Addr × Obj)} {σ : St} {H : Hp} {s : Shared} {Q : VK} {us : List Value} {vs : List V} (F : FnOk X.prog X.w X.K X.mg X.base CX k g fd ps sp) (hr : Room k A) (hA : Env0 X.prog X.w X.K X.mg X.base A X.stack s H) (hb : Binds X.K fd ps []) (hx : Passes CX X E)
    (I : Inv X pins σ H s) (r : Vals vs us) (h : sp vs H Q E) : wpAny (model X.prog X.w) A (call (.ref g) us) (EP X pins σ Q) X.xe s := by
  have hl : (us ++ ([] : List Value)).length = ps.length := by
    rw [List.append_nil, ← r.length]
    exact F.len _ _ _ _ h
  have hbb := hb s us I.kIn hl
  rw [List.append_nil] at hbb
  refine wpAny_call (codeAny_mono (F.run A X.stack s H ⟨us, []⟩ us vs Q E hr hA hbb r h) fun r s' hq => ?_)
  cases r with
  | error e => exact hx pins σ H s e s' I hq
  | ok fl =>
    cases fl with
    | ret u => exact I.after hq
    | next => exact False.elim hq
    | brk => exact False.elim hq
    | cont => exact False.elim hq
def rNeO (C : Addr) (sp : Sp) (E : XK) : R2 := fun x y H Q => IsIn C H x ∧ IsIn C H y ∧ sp [x, y] H (fun v H' => ∃ b, v = .bl b ∧ Q (.bl (!b)) H') E
theorem op_neO (hs : PySem.W.findIn X.K (.ref C) "__eq__" = some (some (.ref g))) (hf : PySem.W.isFn X.K (.ref g) = true) (hm : PySem.W.mroIn X.K C (.type "object") = some true) (hn : PySem.W.findIn X.K (.ref C) "__ne__" = some (some (.builtin "object.__ne__")))
    (F : FnOk X.prog X.w X.K X.mg X.base CX k g fd ps sp) (hr : Room (k + 1) X.A) (hb : Binds X.K fd ps []) (hx : Passes CX X E) : OpR X (compareOp .NotEq) (rNeO C sp E) := by
  intro pins s σ H x y v u Q I rx ry h
  obtain ⟨⟨a, dx, fs, rfl, ha⟩, ⟨b, dy, gs, rfl, hb'⟩, q⟩ := h
  cases (show v = Value.ref a from rx)
  cases (show u = Value.ref b from ry)
  obtain ⟨od, J⟩ := inst_at I ha
  obtain ⟨od', J'⟩ := inst_at I hb'
  show wpAny (model X.prog X.w) X.A (richCompare .NotEq (.ref a) (.ref b)) _ _ _
  refine rc_ne (by have := hr.units0; have := hr.units; omega) I.kIn J J' hm hn hs hf ?_
  refine wpAny_mono (run_in (us := [.ref a, .ref b]) (vs := [.ref a, .ref b]) F hr.in1 I.env0.in1 hb hx I (.cons rfl (.cons rfl .nil)) q) (fun w s' z => ?_) fun _ _ x => x
  obtain ⟨z', H', I', rz, c, rfl, qz⟩ := z
  cases (show w = Value.bool c from rz)
  exact ⟨c, rfl, .bl (!c), H', I', rfl, qz⟩
def rStrO (C : Addr) (sp : Sp) (E : XK) : List V → Hp → VK → Prop := fun xs H Q => ∃ x, xs = [x] ∧ IsIn C H x ∧ sp [x] H (fun v H' => ∃ z, v = .str z ∧ Q (.str z) H') E
theorem cr_strO (hs : PySem.W.findIn X.K (.ref C) "__str__" = some (some (.ref g))) (hf : PySem.W.isFn X.K (.ref g) = true)
    (F : FnOk X.prog X.w X.K X.mg X.base CX k g fd ps sp) (hr : Room (k + 2) X.A) (hb : Binds X.K fd ps []) (hx : Passes CX X E) : CallR X (.type "str") (rStrO C sp E) := by
  intro pins s σ H xs us Q I r h
  obtain ⟨x, rfl, ⟨a, dx, fs, rfl, ha⟩, q⟩ := h
  obtain ⟨u, rfl, ru⟩ := r.one
  cases (show u = Value.ref a from ru)
  obtain ⟨od, J⟩ := inst_at I ha
  have hr1 : Room (k + 1) X.A.in1 := Room.in1 hr
  refine PySem.W.kso_call (Nat.lt_of_lt_of_le hr1.in1.units0 (Nat.le_refl _)) I.kIn J hs hf ?_
  refine wpAny_mono (run_in (us := [.ref a]) (vs := [.ref a]) F hr1.in1 I.env0.in1.in1 hb hx I (.cons rfl .nil) q) (fun w s' z => ?_) fun _ _ x => x
  obtain ⟨z', H', I', rz, c, rfl, qz⟩ := z
  obtain ⟨t, e⟩ := (show ∃ t, w = Value.str c t from rz)
  cases e
  exact ⟨.str c, H', I', ⟨t, rfl⟩, qz⟩
/-- isinstance(x, a tuple of types), the tuple known in any way -/
def rIsiS (K : PySem.W.Frag) : List V → Hp → VK → Prop := fun xs H Q => ∃ (x : V) (tp : Addr) (cs : List V) (t : Value) (us : List Value) (b : Bool), xs = [x, .ref tp] ∧ SqT K H tp cs ∧ Paired ClsV cs us ∧ TyX K H x t ∧ PySem.W.kitAny K t us = some b ∧ Q (.bl b) H
theorem cr_isiS : CallR X (.builtin "isinstance") (rIsiS X.K) := by
  intro pins s σ H xs us Q I r h
  obtain ⟨x, tp, cs, t, ws, b, rfl, hT, kk, ty, e, q⟩ := h
  obtain ⟨u1, u2, rfl, r1, r2⟩ := vals2 r
  cases (show u2 = Value.ref tp from r2)
  obtain ⟨P, Z, p, hx⟩ := kit_of I r1 ty
  obtain ⟨its, rv, ⟨⟨oc, od, dt, sl⟩, h1, h2, n, h3⟩, _⟩ := I.tuple hT
  have e3 := ClsV.all kk rv
  subst e3
  simp only at h2 h3
  subst h2 h3
  exact PySem.W.kia_tup Z I.kIn p h1 e hx fun tk => ⟨.bl b, H, I.tok tk, rfl, q⟩
end
section
variable {K : PySem.W.Frag} {mg : PySem.Str → Option Value}
def xmake (c : Nat) (m : Mob → List D → Option (R × Mob)) (dds : List D) (a : M (List D)) : M R := fun G => bd (a G) fun xs G1 => match m (.o c []) (xs ++ dds) with
  | some (.im .non, m') => some (.ow m', G1)
  | _ => none
theorem gk_make {c : Nat} {m : Mob → List D → Option (R × Mob)} {dds : List D} {dvs : List V} {E : XK} (T : ClT K mg c) (hd : ∀ H, DRs K H dvs dds) {ta : TA} {a : M (List D)} (ha : AOk K ta a) : GOk K (tMake T.C (spB K m) dvs E ta) (xmake c m dds a) := fun Fz ba G σ H Hs res G' q e0 Q k => by
  obtain ⟨xs, G1, e1, e⟩ := bd_inv e0
  split at e
  case h_2 => cases e
  rename_i m' hm
  cases e
  refine ha Fz ba G σ H Hs xs _ q e1 _ fun vs H1 Hs1 q1 s1 d1 x dx hx hdx hne => ?_
  have sm : Same H1 (upd (upd H1 dx (.own x)) x (.ins T.C dx [])) := fun b o hb => by
    rw [upd_ne (ne_of_none hb hx), upd_ne (ne_of_none hb hdx)]
    exact hb
  refine ⟨Hs1, x, vs ++ dvs, _, .o c [], xs ++ dds, .im .non, m', rfl, q1.sub.trans sm, upd_same, none_sub q1.sub hx, ⟨T.C, dx, [], T.at_, rfl, rfl, .nil⟩, d1.app (hd _), hm, fun v H2 Hs2 o2 ex hl hn hd2 rf => ?_⟩
  refine ⟨by cases rf; rfl, ?_⟩
  have ex2 : Ext H1 Hs1 H2 Hs2 := ⟨fun b o hb => ex.a b o (ne_of_none hb hx) (sm b o hb), ex.b, ex.c, fun b o hb hnb => ex.n b o (sm b o hb) hnb⟩
  have rf2 : ResF K H1 H2 Hs2 (.ref x) (.ow m') := ⟨x, o2, rfl, hx, hl, hn, hd2⟩
  exact k _ H2 Hs2 (q1.ext ex2) (s1.trans ex.b) (rf2.res q1)
def xmeth (c : Nat) (m : List D → Option R) (dds : List D) (a : M R) (as : M (List D)) : M R := fun G => bd (a G) fun x G1 => match x.d with
  | .obj c' ds => if c' = c then bd (as G1) fun xs G2 => (match m (.obj c' ds :: (xs ++ dds)) with
    | some r => some (r, G2)
    | none => none) else none
  | _ => none
theorem gk_meth {c : Nat} {nm : PySem.Str} {m : List D → Option R} {dds : List D} {dvs : List V} {E : XK} (T : ClT K mg c) (hn : nm ∉ cAttrs c) (hd : ∀ H, DRs K H dvs dds) {ta : TE} {tas : TA} {a : M R} {as : M (List D)} (ha : GOk K ta a) (has : AOk K tas as) :
    GOk K (tMeth T.C nm (spF K m) dvs E ta tas) (xmeth c m dds a as) := fun Fz ba G σ H Hs res G' q e0 Q k => by
  obtain ⟨x, G1, e1, e⟩ := bd_inv e0
  refine ha.im q e1 fun v H1 Hs1 q1 s1 d1 => ?_
  cases hx : x.d with
  | obj c' ds =>
    rw [hx] at e d1
    simp only at e
    split at e
    case isFalse => cases e
    rename_i hc
    subst hc
    obtain ⟨xs, G2, e2, e⟩ := bd_inv e
    split at e
    case h_2 => cases e
    rename_i r hm
    cases e
    have dd := d1
    cases d1 with
    | obj hC hH hns hv hs =>
      subst hv
      cases hC.eq T.at_
      refine ⟨_, _, _, rfl, q1.sub _ _ hH, fs_none (fun z => hn ?_), ?_⟩
      · rw [hns] at z
        exact List.mem_of_mem_take z
      · refine has Fz ba G1 σ H1 Hs1 xs _ q1 e2 _ fun vs H2 Hs2 q2 s2 d2 => ?_
        exact ⟨Hs2, _, _, q2.sub, .cons (dd.mono s2) (d2.app (hd _)), hm, fun v H3 Hs3 ex rf => k v H3 Hs3 (q2.ext ex) ((s1.trans s2).trans ex.b) (rf.res q2)⟩
  | _ => rw [hx] at e; cases e
def isO (c : Nat) : D → Bool
  | .obj c' _ => c' == c
  | _ => false
theorem isO_in {c : Nat} {C : Addr} {Hs H : Hp} {x : V} {d : D} (hC : CAt K c C) (h : DR K Hs x d) (s : Same Hs H) (e : isO c d = true) : IsIn C H x := by
  cases h with
  | obj hc hH hns hv hs =>
    have z := beq_iff_eq.mp e
    subst z
    cases hc.eq hC
    exact ⟨_, _, _, rfl, s _ _ hH⟩
  | _ => cases e
def opOwn (c : Nat) (m : List D → Option R) (o : D → D → Option R) (x y : D) : Option R := if isO c x && isO c y then m [x, y] else o x y
theorem od_own {c : Nat} {C : Addr} {m : List D → Option R} {o : D → D → Option R} {r : R2} {E : XK} (hC : CAt K c C) (ho : OpD K r o) : OpD K (fun x y H Q => r x y H Q ∨ rBin C (spF K m) E x y H Q) (opOwn c m o) := fun H Hs x y dx dy res s hx hy e Q k => by
  unfold opOwn at e
  split at e
  · rename_i hb
    rw [Bool.and_eq_true] at hb
    exact .inr ⟨isO_in hC hx s hb.1, isO_in hC hy s hb.2, Hs, [dx, dy], res, s, .cons hx (.cons hy .nil), e, k⟩
  · exact .inl (ho H Hs x y dx dy res s hx hy e Q k)
def opOwnNe (c : Nat) (m : List D → Option R) (o : D → D → Option R) (x y : D) : Option R := if isO c x && isO c y then (match m [x, y] with | some (.im (.bl b)) => some (.im (.bl (!b))) | _ => none) else o x y
theorem od_ownNe {c : Nat} {C : Addr} {m : List D → Option R} {o : D → D → Option R} {r : R2} {E : XK} (hC : CAt K c C) (ho : OpD K r o) : OpD K (fun x y H Q => r x y H Q ∨ rNeO C (spF K m) E x y H Q) (opOwnNe c m o) := fun H Hs x y dx dy res s hx hy e Q k => by
  unfold opOwnNe at e
  split at e
  · rename_i hb
    rw [Bool.and_eq_true] at hb
    split at e
    case h_2 => cases e
    rename_i b hm
    cases e
    refine .inr ⟨isO_in hC hx s hb.1, isO_in hC hy s hb.2, Hs, [dx, dy], _, s, .cons hx (.cons hy .nil), hm, fun v H' Hs' ex rf => ?_⟩
    cases rf
    exact ⟨b, rfl, k _ H' Hs' ex (.bl _)⟩
  · exact .inl (ho H Hs x y dx dy res s hx hy e Q k)
def unOwn (c : Nat) (m : List D → Option R) (o : D → Option R) (x : D) : Option R := if isO c x then m [x] else o x
theorem ud_own {c : Nat} {C : Addr} {m : List D → Option R} {o : D → Option R} {r : V → Hp → VK → Prop} {E : XK} (hC : CAt K c C) (ho : UnD K r o) : UnD K (fun x H Q => r x H Q ∨ rUnO C (spF K m) E x H Q) (unOwn c m o) := fun H Hs x dx res s hx e Q k => by
  unfold unOwn at e
  split at e
  · rename_i hb
    exact .inr ⟨isO_in hC hx s hb, Hs, [dx], res, s, .cons hx .nil, e, k⟩
  · exact .inl (ho H Hs x dx res s hx e Q k)
theorem un_or {X : Cx} {f : Value → Sem Value} {r r' : V → Hp → VK → Prop} (h : UnR X f r) (h' : UnR X f r') : UnR X f (fun x H Q => r x H Q ∨ r' x H Q) := fun pins s σ H x v Q I rx q => by
  rcases q with q | q
  · exact h pins s σ H x v Q I rx q
  · exact h' pins s σ H x v Q I rx q
def rStr : List V → Hp → VK → Prop := fun xs H Q => (∃ i, xs = [.int i] ∧ i.natAbs.log2 < 1920 ∧ Q (.str (toString i)) H) ∨ ∃ a, xs = [.str a] ∧ Q (.str a) H
theorem cr_str {X : Cx} : CallR X (.type "str") rStr := fun pins s σ H xs us Q I r h => by
  rcases h with h | h
  · exact call_str_int pins s σ H xs us Q I r h
  · exact SkE.call_str_str pins s σ H xs us Q I r h
def intS (i : Int) : PySem.Str := toString i
def cbStr : List D → Option R
  | [.int i] => if decide (i.natAbs.log2 < 1920) then some (.im (.str (intS i))) else none
  | [.str a] => some (.im (.str a))
  | _ => none
theorem cd_str : CbD K rStr cbStr := fun H Hs xs ds res s h e Q k => by
  unfold cbStr at e
  split at e
  · split at e
    case isFalse => cases e
    rename_i hf
    cases e
    cases h with
    | cons a a2 => cases a2; cases a; exact .inl ⟨_, rfl, of_decide_eq_true hf, k _ H Hs (Ext.refl s) (.str _)⟩
  · cases e
    cases h with
    | cons a a2 => cases a2; cases a; exact .inr ⟨_, rfl, k _ H Hs (Ext.refl s) (.str _)⟩
  · cases e
def cbStrO (c : Nat) (m : List D → Option R) (ds : List D) : Option R := match ds with
  | [d] => if isO c d then (match m [d] with | some (.im (.str z)) => some (.im (.str z)) | _ => none) else cbStr [d]
  | _ => none
theorem cd_strO {c : Nat} {C : Addr} {m : List D → Option R} {E : XK} (hC : CAt K c C) : CbD K (fun xs H Q => rStr xs H Q ∨ rStrO C (spF K m) E xs H Q) (cbStrO c m) := fun H Hs xs ds res s h e Q k => by
  unfold cbStrO at e
  split at e
  case h_2 => cases e
  split at e
  · rename_i d hb
    split at e
    case h_2 => cases e
    rename_i z hm
    cases e
    cases h with
    | cons a a2 =>
      cases a2
      refine .inr ⟨_, rfl, isO_in hC a s hb, Hs, [d], _, s, .cons a .nil, hm, fun v H' Hs' ex rf => ?_⟩
      cases rf
      exact ⟨z, rfl, k _ H' Hs' ex (.str _)⟩
  · exact .inl (cd_str H Hs xs _ res s h e Q k)
theorem cr_or {X : Cx} {f : Value} {r r' : List V → Hp → VK → Prop} (h : CallR X f r) (h' : CallR X f r') : CallR X f (fun xs H Q => r xs H Q ∨ r' xs H Q) := fun pins s σ H xs us Q I rx q => by
  rcases q with q | q
  · exact h pins s σ H xs us Q I rx q
  · exact h' pins s σ H xs us Q I rx q
def tyL : List D → Option (List String)
  | [] => some []
  | .ty b :: r => (tyL r).map fun l => b :: l
  | _ :: _ => none
def isiL (a : String) : List String → Option Bool
  | [] => some false
  | b :: r => match isiT a b with
    | some true => some true
    | some false => isiL a r
    | none => none
theorem tyL_ok {H : Hp} : ∀ {ds : List D} {vs : List V} {l : List String}, DRs K H vs ds → tyL ds = some l → Paired ClsV vs (l.map Value.type)
  | [], _, _, h, e => by cases h; cases e; exact .nil
  | d :: ds, _, l, h, e => by
    cases h with
    | cons h1 h2 =>
      cases d with
      | ty b =>
        cases h1
        unfold tyL at e
        cases z : tyL ds with
        | none => rw [z] at e; cases e
        | some l' =>
          rw [z] at e
          cases e
          exact .cons (.ty b) (tyL_ok h2 z)
      | _ => cases e
theorem isiL_ok {a : String} (ha : ["NoneType", "bool", "int", "str", "list", "tuple"].contains a = true) : ∀ {l : List String} {k : Bool}, isiL a l = some k → PySem.W.kitAny K (.type a) (l.map Value.type) = some k
  | [], _, e => by cases e; rfl
  | b :: l, k, e => by
    unfold isiL at e
    rw [List.map_cons]
    unfold PySem.W.kitAny
    split at e
    · rename_i z
      cases e
      rw [kit_ty (isiT_ok ha z)]
    · rename_i z
      rw [kit_ty (isiT_ok ha z)]
      exact isiL_ok ha e
    · cases e
def cbIsiS : List D → Option R
  | [d, .tup cs] => match tyS d, tyL cs with
    | some t, some l => (isiL t l).map fun k => .im (.bl k)
    | _, _ => none
  | _ => none
theorem cd_isiS : CbD K (rIsiS K) cbIsiS := fun H Hs xs ds res s h e Q k => by
  unfold cbIsiS at e
  split at e
  case h_2 => cases e
  split at e
  case h_2 => cases e
  rename_i t l z1 z2
  cases z3 : isiL t l with
  | none => rw [z3] at e; cases e
  | some b =>
    rw [z3] at e
    cases e
    cases h with
    | cons a a2 =>
      cases a2 with
      | cons a2 a3 =>
        cases a3
        cases a2 with
        | tup h1 h2 =>
          obtain ⟨t1, t2⟩ := tyS_ok (a.mono s) z1
          exact ⟨_, _, _, _, _, b, rfl, same_tup s h1, tyL_ok h2 z2, t1, isiL_ok t2 z3, k _ H Hs (Ext.refl s) (.bl _)⟩
/-- isinstance(x, C), C an own class -/
structure IsT (K : PySem.W.Frag) (C : Addr) : Prop where
  ins : C8.InsC K C
  ot : ∀ t ∈ ["NoneType", "bool", "int", "str", "list", "tuple"], PySem.W.kitOne K (.type t) (.ref C) = some false
def cbIsiC (c : Nat) : List D → Option R
  | [.obj c' _, .cl c2] => if c' = c ∧ c2 = c then some (.im (.bl true)) else none
  | [d, .cl c2] => match tyS d with
    | some _ => if c2 = c then some (.im (.bl false)) else none
    | none => none
  | _ => none
theorem cd_isiC {c : Nat} {C : Addr} (hC : CAt K c C) (I : IsT K C) : CbD K (rIsi K) (cbIsiC c) := fun H Hs xs ds res s h e Q k => by
  unfold cbIsiC at e
  split at e
  · split at e
    case isFalse => cases e
    rename_i hc
    obtain ⟨rfl, rfl⟩ := hc
    cases e
    cases h with
    | cons a a2 =>
      cases a2 with
      | cons a2 a3 =>
        cases a3
        cases a2 with
        | cl hc2 =>
          cases hc2.eq hC
          cases a with
          | obj hc3 hH hn hv hs =>
            cases hc3.eq hC
            exact ⟨_, _, _, _, true, rfl, .own _, .base (.ins (s _ _ hH) I.ins.cl I.ins.ha I.ins.hn I.ins.htk I.ins.hm), I.ins.me, k _ H Hs (Ext.refl s) (.bl _)⟩
  · split at e
    case h_2 => cases e
    rename_i t z
    split at e
    case isFalse => cases e
    rename_i hc
    subst hc
    cases e
    cases h with
    | cons a a2 =>
      cases a2 with
      | cons a2 a3 =>
        cases a3
        cases a2 with
        | cl hc2 =>
          cases hc2.eq hC
          obtain ⟨t1, t2⟩ := tyS_ok (a.mono s) z
          exact ⟨_, _, _, _, false, rfl, .own _, t1, I.ot _ (by simpa using t2), k _ H Hs (Ext.refl s) (.bl _)⟩
  · cases e
end
end Bk
namespace Bk
open PySem L2
section
variable {K : PySem.W.Frag}
def xstar (a : M R) (r : M (List D)) : M (List D) := fun G => bd (a G) fun x G1 => match seqD x.d with
  | some ds => bd (r G1) fun es G2 => some (ds ++ es, G2)
  | none => none
theorem ak_star {ta : TE} {tr : TA} {a : M R} {r : M (List D)} (ha : GOk K ta a) (hr : AOk K tr r) : AOk K (StX.tStar K ta tr) (xstar a r) := fun Fz ba G σ H Hs ds G' q e0 Q k => by
  obtain ⟨x, G1, e1, e⟩ := bd_inv e0
  refine ha.im q e1 fun v H1 Hs1 q1 s1 d1 => ?_
  split at e
  case h_2 => cases e
  rename_i xs hx
  obtain ⟨es, G2, e2, e⟩ := bd_inv e
  cases e
  obtain ⟨kk, p, vs, rfl, hp, hd⟩ := seqD_ok d1 hx
  have hp1 : SqT K H1 p vs ∨ SqL K H1 p vs := by
    cases kk with
    | true => exact .inr (same_lst q1.sub hp)
    | false => exact .inl (same_tup q1.sub hp)
  exact ⟨p, vs, rfl, hp1, hr Fz ba G1 σ H1 Hs1 es _ q1 e2 _ fun ws H2 Hs2 q2 s2 d2 => k _ H2 Hs2 q2 (s1.trans s2) ((hd.mono s2).app d2)⟩
def opAddB : D → D → Option R
  | .tup xs, .tup ys => if few (xs.length + ys.length) then some (.im (.tup (xs ++ ys))) else none
  | x, y => opAdd x y
def rAddB (K : PySem.W.Frag) : R2 := fun x y H Q => rAddA x y H Q ∨ rCatA K x y H Q
theorem op_addB {X : Cx} : OpR X (binaryOp .Add) (rAddB X.K) := op_addA.or op_catA
theorem od_addB : OpD K (rAddB K) opAddB := fun H Hs x y dx dy res s hx hy e Q k => by
  unfold opAddB at e
  split at e
  · split at e
    case isFalse => cases e
    rename_i xs ys hf
    cases e
    have hx0 := hx
    have hy0 := hy
    cases hx with
    | tup h1 d1 =>
      cases hy with
      | tup h2 d2 =>
        refine .inr ⟨_, _, _, _, rfl, rfl, same_tup s h1, same_tup s h2, by rw [d1.len, d2.len]; exact few_ok hf, fun z => ?_, fun _ z => ?_, fun _ _ p hp => ?_⟩
        · subst z
          cases d1
          exact k _ H Hs (Ext.refl s) hy0
        · subst z
          cases d2
          rw [List.append_nil] at k
          exact k _ H Hs (Ext.refl s) hx0
        · exact k _ _ _ (Ext.new s hp) (.tup (SqT.of upd_same) ((d1.app d2).mono (Ext.new (o := HO.tup _) s hp).b))
  · exact .inl (od_add H Hs x y dx dy res s hx hy e Q k)
def slB (d : D) (lo hi : Option Int) : Option R := match d with
  | .tup xs => some (.im (.tup (cutD xs lo hi)))
  | .str z => if few z.length then some (.im (.str (cutS z lo hi))) else none
  | d => slL d lo hi
def rSlB (K : PySem.W.Frag) : V → Option Int → Option Int → Hp → VK → Prop := fun x lo hi H Q => (rSlL K x lo hi H Q ∨ L2.rSlA K x lo hi H Q) ∨ rSlS x lo hi H Q
theorem sl_B {X : Cx} : SlR X (rSlB X.K) := (sl_list.or sl_tupA).or sl_str
theorem cut_whole {xs : List D} {lo hi : Option Int} (h : HT.sIx xs.length 0 lo = 0 ∧ HT.sIx xs.length xs.length hi = xs.length) : cutD xs lo hi = xs := by
  unfold cutD
  rw [h.1, h.2]
  simp
theorem sd_B : SlD K (rSlB K) slB := fun H Hs x dx l h res s hx e Q k => by
  unfold slB at e
  split at e
  · cases e
    have hx0 := hx
    cases hx with
    | tup h1 d1 =>
      refine .inl (.inr ⟨_, _, rfl, same_tup s h1, fun z => ?_, fun z p hp => ?_⟩)
      · rw [d1.len] at z
        rw [cut_whole z] at k
        exact k _ H Hs (Ext.refl s) hx0
      · exact k _ _ _ (Ext.new s hp) (.tup (SqT.of upd_same) (cut_ok (d1.mono (Ext.new (o := HO.tup _) s hp).b) _ _))
  · split at e
    case isFalse => cases e
    rename_i hf
    cases e
    cases hx
    exact .inr ⟨_, rfl, few_ok hf, k _ H Hs (Ext.refl s) (.str _)⟩
  · exact .inl (.inl (sd_list H Hs x _ l h res s hx e Q k))
def flatD : D → Option V
  | .non => some .non
  | .bl b => some (.bl b)
  | .int i => some (.int i)
  | .str x => some (.str x)
  | _ => none
def flatDs : List D → Option (List V)
  | [] => some []
  | d :: ds => match flatD d, flatDs ds with
    | some v, some vs => some (v :: vs)
    | _, _ => none
theorem flatD_ok {H : Hp} {x v : V} {d : D} (h : DR K H x d) (e : flatD d = some v) : x = v ∧ flatV v = true := by
  cases h <;> cases e <;> exact ⟨rfl, rfl⟩
theorem flatDs_ok {H : Hp} : ∀ {ds : List D} {xs vs : List V}, DRs K H xs ds → flatDs ds = some vs → xs = vs ∧ vs.all flatV = true
  | [], _, _, h, e => by cases h; cases e; exact ⟨rfl, rfl⟩
  | d :: ds, _, _, h, e => by
    unfold flatDs at e
    split at e
    case h_2 => cases e
    rename_i h1 h2
    cases e
    cases h with
    | cons a b =>
      obtain ⟨e1, f1⟩ := flatD_ok a h1
      obtain ⟨e2, f2⟩ := flatDs_ok b h2
      subst e1 e2
      exact ⟨rfl, by rw [List.all_cons, f1, f2]; rfl⟩
def opIn (neg : Bool) (x y : D) : Option R := match y with
  | .str z => match x with
    | .str i => match i.cps.toList with
      | [c] => some (.im (.bl (if neg then !decide (c ∈ z.cps.toList) else decide (c ∈ z.cps.toList))))
      | _ => none
    | _ => none
  | y => match seqD y, flatD x with
    | some ds, some v => match flatDs ds with
      | some vs => some (.im (.bl (if neg then !inV v vs else inV v vs)))
      | none => none
    | _, _ => none
def rInA (K : PySem.W.Frag) (neg : Bool) : R2 := fun x y H Q => rIn K neg x y H Q ∨ ∃ (c : Nat) (z : PySem.Str), x = .str ⟨#[c]⟩ ∧ y = .str z ∧ Q (.bl (if neg then !decide (c ∈ z.cps.toList) else decide (c ∈ z.cps.toList))) H
theorem op_inA {X : Cx} : OpR X (compareOp .In) (rInA X.K false) := op_in_seq.or op_in_sign
theorem op_notInA {X : Cx} : OpR X (compareOp .NotIn) (rInA X.K true) := op_notIn_seq.or op_notIn_sign
theorem od_in {neg : Bool} : OpD K (rInA K neg) (opIn neg) := fun H Hs x y dx dy res s hx hy e Q k => by
  unfold opIn at e
  split at e
  · split at e
    case h_2 => cases e
    split at e
    case h_2 => cases e
    rename_i z _ i _ c hc
    have hi : i = ⟨#[c]⟩ := by
      have z2 : i.cps = #[c] := by
        have z3 := congrArg List.toArray hc
        simpa using z3
      cases i
      exact congrArg PySem.Str.mk z2
    subst hi
    cases e
    cases hx; cases hy
    exact .inr ⟨c, z, rfl, rfl, k _ H Hs (Ext.refl s) (.bl _)⟩
  · split at e
    case h_2 => cases e
    rename_i ds v h1 h2
    split at e
    case h_2 => cases e
    rename_i vs h3
    cases e
    obtain ⟨e1, f1⟩ := flatD_ok hx h2
    obtain ⟨kk, p, xs, rfl, hp, hd⟩ := seqD_ok hy h1
    obtain ⟨e3, f3⟩ := flatDs_ok hd h3
    subst e1 e3
    refine .inl ⟨p, xs, rfl, ?_, f1, f3, k _ H Hs (Ext.refl s) (.bl _)⟩
    cases kk with
    | true => exact .inl (same_lst s hp)
    | false => exact .inr (same_tup s hp)
end
section
variable {K : PySem.W.Frag}
def fmtD : D → Option PySem.Str
  | .str y => if few y.length then some y else none
  | .int i => if decide (i.natAbs.log2 < 1920) then some (intS i) else none
  | _ => none
def xfmt (a : M R) : M R := fun G => bd (a G) fun x G1 => match fmtD x.d with
  | some y => some (.im (.str y), G1)
  | none => none
theorem gk_fmt {ta : TE} {a : M R} (ha : GOk K ta a) : GOk K (tFmt ta) (xfmt a) := fun Fz ba G σ H Hs res G' q e0 Q k => by
  obtain ⟨x, G1, e1, e⟩ := bd_inv e0
  split at e
  case h_2 => cases e
  rename_i y hy
  cases e
  refine ha.im q e1 fun v H1 Hs1 q1 s1 d1 => ?_
  unfold fmtD at hy
  split at hy
  · rename_i z hz
    rw [hz] at d1
    cases d1
    split at hy
    case isFalse => cases hy
    rename_i hf
    cases hy
    exact .inl ⟨_, rfl, few_ok hf, k _ H1 Hs1 q1 s1 (.str _)⟩
  · rename_i i hz
    rw [hz] at d1
    cases d1
    split at hy
    case isFalse => cases hy
    rename_i hf
    cases hy
    exact .inr ⟨_, rfl, of_decide_eq_true hf, k _ H1 Hs1 q1 s1 (.str _)⟩
  · cases hy
def xjs : List (M R) → PySem.Str → M R
  | [], acc, G => some (.im (.str acc), G)
  | a :: as, acc, G => bd (a G) fun x G1 => match x.d with
    | .str y => if few (acc ++ y).length then xjs as (acc ++ y) G1 else none
    | _ => none
inductive JOk (K : PySem.W.Frag) : List TE → List (M R) → Prop
  | nil : JOk K [] []
  | cons {t : TE} {ts : List TE} {a : M R} {as : List (M R)} : GOk K t a → JOk K ts as → JOk K (t :: ts) (a :: as)
theorem js_ok {ts : List TE} {as : List (M R)} (h : JOk K ts as) : ∀ acc : PySem.Str, GOk K (fun σ H Q => tJs ts acc σ H fun out H1 => Q (.str out) H1) (xjs as acc) := by
  induction h with
  | nil =>
    intro acc Fz ba G σ H Hs res G' q e Q k
    cases e
    exact k _ H Hs q (Same.refl _) (.str _)
  | cons ha hr ih =>
    intro acc Fz ba G σ H Hs res G' q e0 Q k
    obtain ⟨x, G1, e1, e⟩ := bd_inv e0
    refine ha.im q e1 fun v H1 Hs1 q1 s1 d1 => ?_
    split at e
    case h_2 => cases e
    rename_i y hy
    rw [hy] at d1
    cases d1
    split at e
    case isFalse => cases e
    rename_i hf
    exact ⟨y, rfl, few_ok hf, ih _ Fz ba G1 σ H1 Hs1 res G' q1 e Q fun v H2 Hs2 q2 s2 r => k v H2 Hs2 q2 (s1.trans s2) r⟩
def strL : List D → Option (List PySem.Str)
  | [] => some []
  | .str x :: r => (strL r).map fun l => x :: l
  | _ :: _ => none
theorem strL_ok {H : Hp} : ∀ {ds : List D} {vs : List V} {l : List PySem.Str}, DRs K H vs ds → strL ds = some l → vs = l.map V.str
  | [], _, _, h, e => by cases h; cases e; rfl
  | d :: ds, _, _, h, e => by
    cases h with
    | cons a b =>
      cases d with
      | str x =>
        cases a
        unfold strL at e
        cases z : strL ds with
        | none => rw [z] at e; cases e
        | some l =>
          rw [z] at e
          cases e
          rw [strL_ok b z]
          rfl
      | _ => cases e
theorem strL_drs {H : Hp} : ∀ (l : List PySem.Str), DRs K H (l.map V.str) (l.map D.str)
  | [] => .nil
  | x :: l => .cons (.str x) (strL_drs l)
def rJoin (K : PySem.W.Frag) : V → List V → Hp → VK → Prop := fun x xs H Q => ∃ a p, ∃ ys : List PySem.Str, x = .str a ∧ xs = [.ref p] ∧ (SqL K H p (ys.map V.str) ∨ SqT K H p (ys.map V.str)) ∧ (ys.map (·.length)).sum + ys.length * a.length ≤ 16777216 ∧ Q (.str (Txt.join a ys)) H
def xjoin (a b : M R) : M R := fun G => bd (a G) fun x G1 => match x.d with
  | .str z => bd (b G1) fun y G2 => (match seqD y.d with
    | some ds => match strL ds with
      | some l => if decide ((l.map (·.length)).sum + l.length * z.length ≤ 16777216) then some (.im (.str (Txt.join z l)), G2) else none
      | none => none
    | none => none)
  | _ => none
theorem gk_join {ta tb : TE} {a b : M R} (ha : GOk K ta a) (hb : GOk K tb b) : GOk K (tM1 (rJoin K) ta tb) (xjoin a b) := fun Fz ba G σ H Hs res G' q e0 Q k => by
  obtain ⟨x, G1, e1, e⟩ := bd_inv e0
  refine ha.im q e1 fun v H1 Hs1 q1 s1 d1 => ?_
  split at e
  case h_2 => cases e
  rename_i z hz
  rw [hz] at d1
  cases d1
  obtain ⟨y, G2, e2, e⟩ := bd_inv e
  refine ⟨⟨z, rfl⟩, ?_⟩
  refine hb.im q1 e2 fun w H2 Hs2 q2 s2 d2 => ?_
  split at e
  case h_2 => cases e
  rename_i ds hds
  split at e
  case h_2 => cases e
  rename_i l hl
  split at e
  case isFalse => cases e
  rename_i hf
  cases e
  obtain ⟨kk, p, vs, rfl, hp, hd⟩ := seqD_ok d2 hds
  have hv := strL_ok hd hl
  subst hv
  refine ⟨z, p, l, rfl, rfl, ?_, of_decide_eq_true hf, k _ H2 Hs2 q2 (s1.trans s2) (.str _)⟩
  cases kk with
  | true => exact .inl (same_lst q2.sub hp)
  | false => exact .inr (same_tup q2.sub hp)
theorem kpe_join {X : Cx} (hK : X.K = K) {o e : Expr} {to te : TE} {apos pos : Pos} (ho : PE X o to) (he : PE X e te) (hs : starEach [e] X.env = [(false, eval e X.env)] := by rfl) (hbase : attributeBase o "join" X.env (eval o X.env) = eval o X.env := by rfl) (hline : (apos.endLine == pos.line) = true := by rfl) :
    PE X (.Call (.Attribute o "join" apos) [e] [] pos) (tM1 (rJoin K) to te) := hK ▸ pe_join ho he hs hbase hline
def xsplit (a b : M R) : M R := fun G => bd (a G) fun x G1 => match x.d with
  | .str z => bd (b G1) fun y G2 => (match y.d with
    | .str w => if !(w.length == 0) && few z.length then (if few (Txt.split z w).length then some (.ol ((Txt.split z w).map D.str), G2) else none) else none
    | _ => none)
  | _ => none
def rSplit : V → List V → Hp → VK → Prop := fun x xs H Q => ∃ a b, x = .str a ∧ xs = [.str b] ∧ (b.length == 0) = false ∧ a.length + 2 ≤ sizeLine ∧ rNewStrs (Txt.split a b) H Q
theorem gk_split {ta tb : TE} {a b : M R} (ha : GOk K ta a) (hb : GOk K tb b) : GOk K (tM1 rSplit ta tb) (xsplit a b) := fun Fz ba G σ H Hs res G' q e0 Q k => by
  obtain ⟨x, G1, e1, e⟩ := bd_inv e0
  refine ha.im q e1 fun v H1 Hs1 q1 s1 d1 => ?_
  split at e
  case h_2 => cases e
  rename_i z hz
  rw [hz] at d1
  cases d1
  obtain ⟨y, G2, e2, e⟩ := bd_inv e
  refine ⟨⟨z, rfl⟩, ?_⟩
  refine hb.im q1 e2 fun w H2 Hs2 q2 s2 d2 => ?_
  split at e
  case h_2 => cases e
  rename_i w hw
  rw [hw] at d2
  cases d2
  split at e
  case isFalse => cases e
  rename_i hf
  split at e
  case isFalse => cases e
  rename_i hf2
  cases e
  rw [Bool.and_eq_true] at hf
  refine ⟨z, w, rfl, rfl, by simpa using hf.1, ?_, fun p hp => ?_⟩
  · have z1 : z.length ≤ 16000000 := of_decide_eq_true hf.2
    exact Nat.le_trans (Nat.add_le_add_right z1 2) (by decide)
  · have ex : Ext H2 Hs2 (upd H2 p (.lst ((Txt.split z w).map V.str))) Hs2 := Ext.hid q2.sub hp
    have rf : ResF K H2 (upd H2 p (.lst ((Txt.split z w).map V.str))) Hs2 (.ref p) (.ol ((Txt.split z w).map D.str)) := ⟨p, _, rfl, hp, upd_same, none_sub q2.sub hp, _, rfl, strL_drs _⟩
    exact k _ _ _ (q2.ext ex) ((s1.trans s2).trans ex.b) (rf.res q2)
end
end Bk
namespace Bk
open PySem L2
section
variable {K : PySem.W.Frag}
def xlc2L (tg : D → Gam → Option Gam) (c : M Bool) (it1 : M (List D)) (tg1 : D → Gam → Option Gam) (c1 : M Bool) (e : M R) (vs vs1 : List Nat) : List D → M (List D)
  | [], G => some ([], G)
  | d :: ds, G => match tg d G with
    | none => none
    | some G1 => bd (c G1) fun k G2 => if k then bd (it1 G2) fun ds1 G3 => bd (xlcL tg1 c1 e vs1 ds1 (wipeG G3 vs1)) fun o1 G4 => bd (xlc2L tg c it1 tg1 c1 e vs vs1 ds (wipeG G4 vs)) fun o2 G5 => some (o1 ++ o2, G5)
        else xlc2L tg c it1 tg1 c1 e vs vs1 ds (wipeG G2 vs)
def xlc2 (it : M (List D)) (tg : D → Gam → Option Gam) (c : M Bool) (it1 : M (List D)) (tg1 : D → Gam → Option Gam) (c1 : M Bool) (e : M R) (vs vs1 : List Nat) : M R := fun G => bd (it G) fun ds G1 =>
  if noMu G1 vs then bd (xlc2L tg c it1 tg1 c1 e vs vs1 ds (wipeG G1 vs)) fun out G2 => if few out.length then some (.ol out, unw G1 G2 vs) else none else none
theorem wipe_sub {σ : L2.St} {vs vs1 : List Nat} (h : ∀ j ∈ vs1, j ∈ vs) : wipe (wipe σ vs1) vs = wipe σ vs := wipe_eq (wipe_length σ vs1) fun j hj => wipe_get fun z => hj (h j z)
theorem gk_lc2 {w w1 : TI} {g g1 : TG} {t t1 : TT} {te : TE} {it it1 : M (List D)} {tg tg1 : D → Gam → Option Gam} {js js1 vs vs1 : List Nat} {c c1 : M Bool} {a : M R} (hi : IOk K w it) (hg : GtOk K g tg js) (hc : TOk K t c) (hi1 : IOk K w1 it1) (hg1 : GtOk K g1 tg1 js1) (hc1 : TOk K t1 c1) (ha : GOk K te a)
    (hj : ∀ j ∈ js, j ∈ vs) (hj1 : ∀ j ∈ js1, j ∈ vs1) (hs : ∀ j ∈ vs1, j ∈ vs) : GOk K (tLc2 w g t w1 g1 t1 te vs vs1) (xlc2 it tg c it1 tg1 c1 a vs vs1) := fun Fz ba G σ H Hs res G' q e Q k => by
  obtain ⟨ds, G1, e1, e⟩ := bd_inv e
  split at e
  case isFalse => cases e
  rename_i nm
  obtain ⟨out, G2, e2, e⟩ := bd_inv e
  split at e
  case isFalse => cases e
  rename_i hf
  cases e
  refine hi Fz ba G σ H Hs ds _ q e1 _ fun J H1 Hs1 q1 s1 Y p hp => ?_
  have hfp : Fz p = none := by
    cases z : Fz p with
    | none => rfl
    | some o =>
      obtain ⟨z1, _⟩ := q1.fz p o z
      rw [hp] at z1
      cases z1
  have q1w := (q1.wiped vs).hide (o := .lst []) hp
  refine ⟨fun i m H2 => m = ds.length - i ∧ i ≤ ds.length ∧ ∃ G3 Hs3 acc ad more, Rel K (upd Fz p (.lst acc)) ba G3 (wipe σ vs) H2 Hs3 ∧ Same Hs1 Hs3 ∧ DRs K Hs3 acc ad ∧ xlc2L tg c it1 tg1 c1 a vs vs1 (ds.drop i) G3 = some (more, G2) ∧ ad ++ more = out,
    ⟨ds.length, rfl, Nat.zero_le _, wipeG G1 vs, Hs1, [], [], out, q1w, Same.refl _, .nil, e2, rfl⟩, ?_⟩
  rintro i m H2 ⟨rfl, hi2, G3, Hs3, acc, ad, more, q3, s3, da, e3, eo⟩
  by_cases hlt : i < ds.length
  · refine .inr ⟨Y.go i H2 (s3.trans q3.sub) hlt, fun H' => i + 1 ≤ ds.length ∧ ∃ G4 Hs4 acc ad more, Rel K (upd Fz p (.lst acc)) ba G4 (wipe σ vs) H' Hs4 ∧ Same Hs1 Hs4 ∧ DRs K Hs4 acc ad ∧ xlc2L tg c it1 tg1 c1 a vs vs1 (ds.drop (i + 1)) G4 = some (more, G2) ∧ ad ++ more = out,
      fun H' ⟨z, z2⟩ => ⟨ds.length - (i + 1), by omega, rfl, z, z2⟩, fun x H' y => ?_⟩
    obtain ⟨d, Hs4, d1, ex, dr⟩ := Y.yld i x H2 H' Hs3 hlt s3 q3.sub y
    have q4 := q3.ext ex
    have ed : ds.drop i = d :: ds.drop (i + 1) := by
      rw [List.drop_eq_getElem_cons hlt]
      rw [List.getElem?_eq_getElem hlt] at d1
      cases d1
      rfl
    rw [ed] at e3
    unfold xlc2L at e3
    cases hG : tg d G3 with
    | none => rw [hG] at e3; cases e3
    | some G4 =>
      rw [hG] at e3
      refine hg.run _ ba G3 _ H' Hs4 x d G4 q4 dr hG _ fun σ5 q5 l5 k5 => ?_
      have hlen : σ5.length = σ.length := by rw [l5, wipe_length]
      have hw : wipe σ5 vs = wipe σ vs := by
        have z := wipe_eq (σ := wipe σ vs) (τ := σ5) (vs := vs) (by rw [wipe_length]; exact hlen) fun j hj' => k5 j fun z => hj' (hj j z)
        rw [z]
        exact wipe_eq (wipe_length σ vs) fun j hj' => wipe_get hj'
      refine ⟨hw, ?_⟩
      obtain ⟨b, G5, e5, e6⟩ := bd_inv e3
      refine hc _ ba G4 σ5 H' Hs4 b G5 q5 e5 _ fun H5 Hs5 q6 s6 => ?_
      cases b with
      | true =>
        obtain ⟨ds1, G6, e7, e8⟩ := bd_inv (show bd (it1 G5) _ = _ from e6)
        obtain ⟨o1, G7, e9, e10⟩ := bd_inv e8
        obtain ⟨o2, G8, e11, e12⟩ := bd_inv e10
        cases e12
        rw [if_pos rfl]
        refine hi1 _ ba G5 σ5 H5 Hs5 ds1 G6 q6 e7 _ fun J1 H6 Hs6 q7 s7 Y1 => ?_
        refine ⟨fun j n H7 => n = ds1.length - j ∧ j ≤ ds1.length ∧ ∃ G9 Hs9 acc ad more, Rel K (upd Fz p (.lst acc)) ba G9 (wipe σ5 vs1) H7 Hs9 ∧ Same Hs6 Hs9 ∧ DRs K Hs9 acc ad ∧ xlcL tg1 c1 a vs1 (ds1.drop j) G9 = some (more, G7) ∧ ad ++ (more ++ o2) = out,
          ⟨ds1.length, rfl, Nat.zero_le _, wipeG G6 vs1, Hs6, acc, ad, o1, q7.wiped vs1, Same.refl _, da.mono ((ex.b.trans s6).trans s7), e9, eo⟩, ?_⟩
        rintro j n H7 ⟨rfl, hj2, G9, Hs9, acc9, ad9, more9, q9, s9, da9, e13, eo9⟩
        by_cases hlt1 : j < ds1.length
        · refine .inr ⟨Y1.go j H7 (s9.trans q9.sub) hlt1, fun H' => j + 1 ≤ ds1.length ∧ ∃ G9 Hs9 acc ad more, Rel K (upd Fz p (.lst acc)) ba G9 (wipe σ5 vs1) H' Hs9 ∧ Same Hs6 Hs9 ∧ DRs K Hs9 acc ad ∧ xlcL tg1 c1 a vs1 (ds1.drop (j + 1)) G9 = some (more, G7) ∧ ad ++ (more ++ o2) = out,
            fun H' ⟨z, z2⟩ => ⟨ds1.length - (j + 1), by omega, rfl, z, z2⟩, fun x1 H8 y1 => ?_⟩
          obtain ⟨dd, Hs10, dd1, ex1, dr1⟩ := Y1.yld j x1 H7 H8 Hs9 hlt1 s9 q9.sub y1
          have q10 := q9.ext ex1
          have ed1 : ds1.drop j = dd :: ds1.drop (j + 1) := by
            rw [List.drop_eq_getElem_cons hlt1]
            rw [List.getElem?_eq_getElem hlt1] at dd1
            cases dd1
            rfl
          rw [ed1] at e13
          unfold xlcL at e13
          cases hG1 : tg1 dd G9 with
          | none => rw [hG1] at e13; cases e13
          | some G11 =>
            rw [hG1] at e13
            refine hg1.run _ ba G9 _ H8 Hs10 x1 dd G11 q10 dr1 hG1 _ fun σ6 q11 l6 k6 => ?_
            have hlen6 : σ6.length = σ5.length := by rw [l6, wipe_length]
            have hw6 : wipe σ6 vs1 = wipe σ5 vs1 := by
              have z := wipe_eq (σ := wipe σ5 vs1) (τ := σ6) (vs := vs1) (by rw [wipe_length]; exact hlen6) fun j hj' => k6 j fun z => hj' (hj1 j z)
              rw [z]
              exact wipe_eq (wipe_length σ5 vs1) fun j hj' => wipe_get hj'
            refine ⟨hw6, ?_⟩
            obtain ⟨b1, G12, e14, e15⟩ := bd_inv e13
            refine hc1 _ ba G11 σ6 H8 Hs10 b1 G12 q11 e14 _ fun H12 Hs12 q12 s12 => ?_
            cases b1 with
            | true =>
              obtain ⟨r, G13, e16, e17⟩ := bd_inv (show bd (a G12) _ = _ from e15)
              obtain ⟨out2, G14, e18, e19⟩ := bd_inv e17
              cases e19
              rw [if_pos rfl]
              refine ha.im q12 e16 fun v H13 Hs13 q13 s13 d13 => ?_
              obtain ⟨f1, f2⟩ := q13.fz p _ upd_same
              have q14 := (q13.rehide (o' := .lst (acc9 ++ [v]))).wiped vs1
              rw [hw6] at q14
              refine ⟨acc9, f1, ?_, hlt1, _, Hs13, _, ad9 ++ [r.d], out2, q14, ((s9.trans ex1.b).trans s12).trans s13, (da9.mono ((ex1.b.trans s12).trans s13)).app (.cons d13 .nil), e18, ?_⟩
              · have z1 := da9.len
                have z2 : ad9.length ≤ out.length := by rw [← eo9, List.length_append]; omega
                exact Nat.lt_of_le_of_lt (by omega) (few_lt hf)
              · rw [← eo9]
                simp
            | false =>
              rw [if_neg Bool.false_ne_true] at e15 ⊢
              have q14 := q12.wiped vs1
              rw [hw6] at q14
              exact ⟨hlt1, _, Hs12, acc9, ad9, more9, q14, (s9.trans ex1.b).trans s12, da9.mono (ex1.b.trans s12), e15, eo9⟩
        · have hend : ds1.length ≤ j := by omega
          rw [List.drop_eq_nil_of_le hend] at e13
          cases e13
          rw [List.nil_append] at eo9
          refine .inl ⟨Y1.stop j H7 (s9.trans q9.sub) hend, hlt, _, Hs9, acc9, ad9, o2, ?_, (((s3.trans ex.b).trans s6).trans s7).trans s9, da9, e11, eo9⟩
          have z := q9.wiped vs
          rw [wipe_sub hs, hw] at z
          exact z
      | false =>
        rw [if_neg Bool.false_ne_true] at e6 ⊢
        have q8 := q6.wiped vs
        rw [hw] at q8
        exact ⟨hlt, _, Hs5, acc, ad, more, q8, (s3.trans ex.b).trans s6, da.mono (ex.b.trans s6), e6, eo⟩
  · have hend : ds.length ≤ i := by omega
    rw [List.drop_eq_nil_of_le hend] at e3
    cases e3
    rw [List.append_nil] at eo
    subst eo
    obtain ⟨f1, f2⟩ := q3.fz p _ upd_same
    refine .inl ⟨Y.stop i H2 (s3.trans q3.sub) hend, k _ H2 Hs3 (q1.unwipe (q3.unhide hfp) s3 nm) (s1.trans s3) ⟨p, _, rfl, f1, f2, hfp, ⟨acc, rfl, da⟩, fun j e' g m z => ?_⟩⟩
    by_cases hjv : j ∈ vs
    · have z1 := q1.len
      have z2 := q3.len
      rw [wipe_length, z1] at z2
      rw [unw_in (G1 := G1) z2.symm hjv] at g
      exact m (noMu_ok nm hjv g)
    · rw [unw_out hjv] at g
      obtain ⟨ds', hd'⟩ : ∃ ds', e'.mu = some ds' := by
        cases y : e'.mu with
        | none => exact absurd y m
        | some ds' => exact ⟨ds', rfl⟩
      obtain ⟨l, ws, a1, a2, a3, a4, a5⟩ := q3.mu j e' ds' g hd'
      rw [wipe_get hjv, z] at a1
      cases a1
      rw [upd_same] at a4
      cases a4
end
end Bk
namespace Bk
open PySem L2
section
variable {K : PySem.W.Frag}
/-- the address that a result owns is p -/
def OwnAt (v : V) (r : R) (p : Addr) : Prop := (∃ m, r = .ow m) ∧ v = .ref p
inductive ResL (K : PySem.W.Frag) (Fz : Hp) (G : Gam) (σ : L2.St) (H Hs : Hp) : List V → List R → Prop
  | nil : ResL K Fz G σ H Hs [] []
  | cons {v : V} {r : R} {vs : List V} {rs : List R} : Res K Fz G σ H Hs v r → (∀ p, OwnAt v r p → ∀ x ∈ vs.zip rs, ¬ OwnAt x.1 x.2 p) → ResL K Fz G σ H Hs vs rs → ResL K Fz G σ H Hs (v :: vs) (r :: rs)
theorem Rel.lock {Fz : Hp} {ba : Nat → Addr} {G : Gam} {σ : L2.St} {H Hs : Hp} (q : Rel K Fz ba G σ H Hs) {p : Addr} {o : HO} (h : H p = some o) (hs : Hs p = none) (hn : ∀ (i : Nat) (e : Ent), G[i]? = some e → e.mu ≠ none → σ[i]? ≠ some (some (.ref p))) : Rel K (upd Fz p o) ba G σ H Hs := by
  refine ⟨q.sub, fun a u e => ?_, q.len, q.im, fun i e ds g g0 => ?_, q.dj, q.bx⟩
  · by_cases z : a = p
    · subst z
      rw [upd_same] at e
      cases e
      exact ⟨h, hs⟩
    · rw [upd_ne z] at e
      exact q.fz a u e
  · obtain ⟨l, vs, a1, a2, a3, a4, a5⟩ := q.mu i e ds g g0
    have ne : l ≠ p := fun z => by
      subst z
      exact hn i e g (by rw [g0]; simp) a1
    exact ⟨l, vs, a1, a2, a3, by rw [upd_ne ne]; exact a4, a5⟩
theorem Res.unlock {Fz : Hp} {G : Gam} {σ : L2.St} {H Hs : Hp} {p : Addr} {o : HO} (hf : Fz p = none) {v : V} {r : R} (h : Res K (upd Fz p o) G σ H Hs v r) : Res K Fz G σ H Hs v r ∧ ¬ OwnAt v r p := by
  cases r with
  | im d => exact ⟨h, fun ⟨⟨m, z⟩, _⟩ => nomatch z⟩
  | ow m =>
    obtain ⟨p', o', rfl, h1, h2, h3, h4, h5⟩ := h
    have ne : p' ≠ p := fun z => by
      subst z
      rw [upd_same] at h3
      cases h3
    rw [upd_ne ne] at h3
    exact ⟨⟨p', o', rfl, h1, h2, h3, h4, h5⟩, fun ⟨_, z⟩ => ne (V.ref.inj z)⟩
theorem ResL.unlock {Fz : Hp} {G : Gam} {σ : L2.St} {H Hs : Hp} {p : Addr} {o : HO} (hf : Fz p = none) : ∀ {vs : List V} {rs : List R}, ResL K (upd Fz p o) G σ H Hs vs rs → ResL K Fz G σ H Hs vs rs ∧ ∀ x ∈ vs.zip rs, ¬ OwnAt x.1 x.2 p
  | _, _, .nil => ⟨.nil, fun x h => by simp at h⟩
  | _, _, .cons h hd t => by
    obtain ⟨a1, a2⟩ := h.unlock hf
    obtain ⟨b1, b2⟩ := ResL.unlock hf t
    refine ⟨.cons a1 hd b1, fun x hx => ?_⟩
    rw [List.zip_cons_cons, List.mem_cons] at hx
    rcases hx with rfl | hx
    · exact a2
    · exact b2 x hx
def AROk (K : PySem.W.Frag) (t : TA) (f : M (List R)) : Prop := ∀ Fz ba G σ H Hs rs G', Rel K Fz ba G σ H Hs → f G = some (rs, G') →
  ∀ Q : List V → Hp → Prop, (∀ vs H' Hs', Rel K Fz ba G' σ H' Hs' → Same Hs Hs' → ResL K Fz G' σ H' Hs' vs rs → Q vs H') → t σ H Q
def ynil : M (List R) := fun G => some ([], G)
def ycons (a : M R) (r : M (List R)) : M (List R) := fun G => bd (a G) fun x G1 => bd (r G1) fun xs G2 => some (x :: xs, G2)
theorem yk_nil : AROk K tNil ynil := fun Fz ba G σ H Hs rs G' q e Q k => by
  cases e
  exact k [] H Hs q (Same.refl _) .nil
theorem yk_cons {ta : TE} {tr : TA} {a : M R} {r : M (List R)} (ha : GOk K ta a) (hr : AROk K tr r) : AROk K (tCons ta tr) (ycons a r) := fun Fz ba G σ H Hs rs G' q e Q k => by
  obtain ⟨x, G1, e1, e⟩ := bd_inv e
  obtain ⟨xs, G2, e2, e⟩ := bd_inv e
  cases e
  refine ha Fz ba G σ H Hs x G1 q e1 _ fun v H1 Hs1 q1 s1 r1 => ?_
  cases x with
  | im d =>
    refine hr Fz ba G1 σ H1 Hs1 xs _ q1 e2 _ fun vs H2 Hs2 q2 s2 r2 => k _ H2 Hs2 q2 (s1.trans s2) (.cons (show DR K Hs2 v d from DR.mono s2 r1) (fun p ⟨⟨m, z⟩, _⟩ => nomatch z) r2)
  | ow m =>
    obtain ⟨p, o, rfl, h1, h2, h3, h4, h5⟩ := r1
    have ql := q1.lock h1 h2 h5
    refine hr _ ba G1 σ H1 Hs1 xs _ ql e2 _ fun vs H2 Hs2 q2 s2 r2 => ?_
    obtain ⟨f1, f2⟩ := q2.fz p o upd_same
    obtain ⟨u1, u2⟩ := ResL.unlock h3 r2
    refine k _ H2 Hs2 (q2.unhide h3) (s1.trans s2) (.cons ⟨p, o, rfl, f1, f2, h3, h4.mono s2, fun i e g mm z => ?_⟩ (fun p' ⟨_, z⟩ => ?_) u1)
    · obtain ⟨ds', hd'⟩ : ∃ ds', e.mu = some ds' := by
        cases y : e.mu with
        | none => exact absurd y mm
        | some ds' => exact ⟨ds', rfl⟩
      obtain ⟨l, ws, a1, a2, a3, a4, a5⟩ := q2.mu i e ds' g hd'
      rw [z] at a1
      cases a1
      rw [upd_same] at a4
      cases a4
    · cases z
      exact u2
/-- a result is still one behind a store of another -/
theorem Res.set {Fz : Hp} {G : Gam} {σ : L2.St} {H Hs : Hp} {i : Nat} {v w : V} {x y : R} (hl : σ.length = G.length) (h : Res K Fz G σ H Hs w y) (hd : ∀ p, OwnAt v x p → ¬ OwnAt w y p) (hx : Res K Fz G σ H Hs v x) : Res K Fz (G.set i x.ent) (σ.set i (some v)) H Hs w y := by
  cases y with
  | im d => exact h
  | ow m =>
    obtain ⟨p, o, rfl, h1, h2, h3, h4, h5⟩ := h
    refine ⟨p, o, rfl, h1, h2, h3, h4, fun j e g mm z => ?_⟩
    rcases get_set g with ⟨rfl, e1, hi⟩ | ⟨ne, g⟩
    · rw [List.getElem?_set_self (by rw [hl]; exact hi)] at z
      cases z
      cases x with
      | im d => subst e1; exact mm rfl
      | ow m' => exact hd p ⟨⟨m', rfl⟩, rfl⟩ ⟨⟨m, rfl⟩, rfl⟩
    · rw [List.getElem?_set_ne ne] at z
      exact h5 j e g mm z
def ypar (i j : Nat) (a : M (List R)) : MS := fun G => bd (a G) fun xs G1 => match xs with
  | [x, y] => some (.nx, (G1.set i x.ent).set j y.ent)
  | _ => none
theorem sk_ypar {i j : Nat} {ta : TA} {a : M (List R)} (ha : AROk K ta a) : SOk K (tPar i j ta) (ypar i j a) := fun Fz ba G σ H Hs fl G' q e Dn p => by
  obtain ⟨xs, G1, e1, e⟩ := bd_inv e
  split at e
  case h_2 => cases e
  rename_i x y
  cases e
  refine ha Fz ba G σ H Hs _ _ q e1 _ fun vs H1 Hs1 q1 s1 d1 => ?_
  cases d1 with
  | cons rx hd d1 =>
    cases d1 with
    | cons ry hd2 d1 =>
      cases d1
      have q2 := q1.set (i := i) rx
      have ry2 := Res.set (i := i) q1.len ry (fun p hp => hd p hp (_, y) (List.mem_cons_self)) rx
      exact ⟨_, _, rfl, p _ H1 Hs1 (q2.set (i := j) ry2) s1⟩
def ypar3 (i j l : Nat) (a : M (List R)) : MS := fun G => bd (a G) fun xs G1 => match xs with
  | [x, y, z] => some (.nx, ((G1.set i x.ent).set j y.ent).set l z.ent)
  | _ => none
theorem sk_ypar3 {i j l : Nat} {ta : TA} {a : M (List R)} (ha : AROk K ta a) : SOk K (tPar3 i j l ta) (ypar3 i j l a) := fun Fz ba G σ H Hs fl G' q e Dn p => by
  obtain ⟨xs, G1, e1, e⟩ := bd_inv e
  split at e
  case h_2 => cases e
  rename_i x y z
  cases e
  refine ha Fz ba G σ H Hs _ _ q e1 _ fun vs H1 Hs1 q1 s1 d1 => ?_
  cases d1 with
  | cons rx hd d1 =>
    cases d1 with
    | cons ry hd2 d1 =>
      cases d1 with
      | cons rz hd3 d1 =>
        cases d1
        have q2 := q1.set (i := i) rx
        have ry2 := Res.set (i := i) q1.len ry (fun p hp => hd p hp (_, y) (List.mem_cons_self)) rx
        have rz2 := Res.set (i := i) q1.len rz (fun p hp => hd p hp (_, z) (List.mem_cons_of_mem _ List.mem_cons_self)) rx
        have q3 := q2.set (i := j) ry2
        have rz3 := Res.set (i := j) q2.len rz2 (fun p hp => hd2 p hp (_, z) List.mem_cons_self) ry2
        exact ⟨_, _, _, rfl, p _ H1 Hs1 (q3.set (i := l) rz3) s1⟩
end
section
variable {X : Cx} {o : Expr} {f : PySem.Str} {pos : Pos} {ta : TE}
def gFld (K : PySem.W.Frag) (ta : TE) (f : PySem.Str) : TG := fun v σ H Q => ta σ H fun x H1 => ∃ a C dx fs, x = .ref a ∧ H1 a = some (.ins C dx fs) ∧ Cls K C ∧ NoAttr K C f ∧ fs.length < 1000 ∧ Q σ (upd H1 a (.ins C dx (putF f v fs)))
theorem pg_fld (ho : PE X o ta) : PG X (.Attribute o f pos) (gFld X.K ta f) := by
  refine ⟨fun pins s σ H v u Q I r h => ?_⟩
  show wpAny _ _ (do
    let ov ← holding [u] (eval o X.env)
    standAt pos.atName
    holding [u, ov] (setAttr ov f u)
    release [u, ov] []) _ _ _
  refine wpAny_bind (wpAny_holding (thn (ho.run pins s σ H _ I h) fun ov s1 ⟨x, H1, I1, r1, a, C, dx, fs, ex, ea, c, n, hl, q⟩ => ?_))
  subst ex
  obtain rfl : ov = Value.ref a := r1
  refine wpAny_bind (wpAny_standAt (wpAny_bind (wpAny_holding (setattr_ok I1 ea c n hl r fun s2 I2 => ?_))))
  exact wpAny_release ⟨σ, _, I2, q⟩
end
section
variable {K : PySem.W.Frag} {mg : PySem.Str → Option Value}
def tgf (j c i : Nat) : D → Gam → Option Gam := fun d G => putA j c i d G
theorem gt_fld {j c i : Nat} {f : PySem.Str} (T : ClT K mg c) (hf : (cAttrs c)[i]? = some f) : ∀ Fz ba G σ H Hs v d G', Rel K Fz ba G σ H Hs → DR K Hs v d → tgf j c i d G = some G' → ∀ Q : L2.St → Hp → Prop, (∀ H', Rel K Fz ba G' σ H' Hs → Q σ H') → gFld K (tVar j) f v σ H Q := fun Fz ba G σ H Hs v d G' q hd e Q k => by
  obtain ⟨a, dx, fs, g1, g2, g3, g4⟩ := putA_ok T hf q hd e
  exact ⟨_, g1, a, T.C, dx, fs, rfl, g2, T.cls, T.na f (List.mem_of_getElem? hf), g3, k _ g4⟩
/-- self.f, self.g = e -/
def xasgF (j c i k : Nat) (a : M R) : MS := fun G => bd (a G) fun x G1 => match x.d with
  | .tup [d, d'] => match putA j c i d G1 with
    | some G2 => match putA j c k d' G2 with
      | some G3 => some (.nx, G3)
      | none => none
    | none => none
  | _ => none
theorem sk_asgF {j c i k : Nat} {f g : PySem.Str} (T : ClT K mg c) (hf : (cAttrs c)[i]? = some f) (hg : (cAttrs c)[k]? = some g) {ta : TE} {a : M R} (ha : GOk K ta a) : SOk K (tAsg ta (gTup K 2 (gCons (gFld K (tVar j) f) (gCons (gFld K (tVar j) g) gNil)))) (xasgF j c i k a) := fun Fz ba G σ H Hs fl G' q e Dn p => by
  obtain ⟨x, G1, e1, e⟩ := bd_inv e
  refine ha.im q e1 fun v H1 Hs1 q1 s1 d1 => ?_
  split at e
  case h_2 => cases e
  rename_i d d' hx
  rw [hx] at d1
  split at e
  case h_2 => cases e
  rename_i G2 h2
  split at e
  case h_2 => cases e
  rename_i G3 h3
  cases e
  cases d1 with
  | tup ht hd =>
    cases hd with
    | cons da hd =>
      cases hd with
      | cons db hd =>
        cases hd
        refine ⟨_, _, rfl, same_tup q1.sub ht, rfl, _, _, rfl, ?_⟩
        refine gt_fld T hf Fz ba G1 σ H1 Hs1 _ d G2 q1 da h2 _ fun H2 q2 => ?_
        refine ⟨_, _, rfl, ?_⟩
        refine gt_fld T hg Fz ba G2 σ H2 Hs1 _ d' _ q2 db h3 _ fun H3 q3 => ?_
        exact ⟨rfl, p σ H3 Hs1 q3 s1⟩
def xaugs (j : Nat) (o : D → D → Option R) (b a : M R) : MS := fun G => if isMu G j then bd (b G) fun k G1 => bd (ixv j k.d G1) fun y G2 => bd (a G2) fun x G3 => match o y.d x.d with
  | some r => put j r.d k.d G3
  | none => none else none
end
end Bk
namespace Bk
open PySem L2 PyProof.Rows Srt
section
variable {prog : Program} {w : World} {A : Around} {E : Value → Shared → Prop} {s : Shared}
/-- a tuple of an int and a pair of ints -/
def IsKP (h : Heap) (v : Value) (k : Int × Int × Int) : Prop := ∃ (a b : Addr) (o o2 : Obj) (t u z : Tok) (n n2 : Nat), v = .ref a ∧ h.get? a = some o ∧ o.cls = .type "tuple" ∧ o.data = .seq #[.int k.1 t, .ref b] n ∧ h.get? b = some o2 ∧ o2.cls = .type "tuple" ∧ o2.data = .seq #[.int k.2.1 u, .int k.2.2 z] n2
theorem IsKP.keeps {h h' : Heap} {v : Value} {k : Int × Int × Int} (p : IsKP h v k) (kk : ∀ b o, h.get? b = some o → o.cls = .type "tuple" → h'.get? b = some o) : IsKP h' v k := by
  obtain ⟨a, b, o, o2, t, u, z, n, n2, e, h1, h2, h3, h4, h5, h6⟩ := p
  exact ⟨a, b, o, o2, t, u, z, n, n2, e, kk _ _ h1 h2, h2, h3, kk _ _ h4 h5, h5, h6⟩
def ltK (k : Value → Int × Int × Int) (v u : Value) : Bool := decide ((k v).1 < (k u).1)
theorem swo_K (k : Value → Int × Int × Int) : SrtO.Swo (ltK k) := by
  refine ⟨fun x y h => ?_, fun x y z h1 h2 => ?_⟩
  · have a := of_decide_eq_true h
    exact decide_eq_false (by omega)
  · have a := of_decide_eq_false h1
    have b := of_decide_eq_false h2
    exact decide_eq_false (by omega)
theorem eq_pairs {b b' : Addr} {o2 o2' : Obj} {p q : Int} {u z u' z' : Tok} {n n' : Nat} (hu : A.units < cLine) (h1 : s.heap.get? b = some o2) (c1 : o2.cls = .type "tuple") (d1 : o2.data = .seq #[.int p u, .int q z] n) (h2 : s.heap.get? b' = some o2') (c2 : o2'.cls = .type "tuple") (d2 : o2'.data = .seq #[.int p u', .int q z'] n') :
    SeqAt.EqAt A s (.ref b) (.ref b') true := by
  by_cases e : b = b'
  · subst e
    exact SeqAt.EqAt.same _
  · have key := SeqAt.RcAt.tuples (A := A) (s := s) (l := b) (b := b') (items := #[.int p u, .int q z]) (items2 := #[.int p u', .int q z']) (e := fun _ => true) ⟨o2, h1, c1, n, d1⟩ ⟨o2', h2, c2, n', d2⟩ hu (fun j j1 j2 => ?_)
    · have key2 : SeqAt.RcAt A s (.ref b) (.ref b') true := by
        have z : ((List.range (min (#[Value.int p u, Value.int q z]).size (#[Value.int p u', Value.int q z']).size)).all (fun _ => true) && (#[Value.int p u, Value.int q z]).size == (#[Value.int p u', Value.int q z']).size) = true := by
          show ((List.range 2).all (fun _ => true) && (2 == 2)) = true
          decide
        rw [z] at key
        exact key
      exact SeqAt.EqAt.of_refs e key2
    · match j, j1, j2 with
      | 0, _, _ => simpa using SeqAt.EqAt.int_int (A := A.in1) (s := s) p u p u'
      | 1, _, _ => simpa using SeqAt.EqAt.int_int (A := A.in1) (s := s) q z q z'
theorem kp_cmp {vs : List Value} {k : Value → Int × Int × Int} (hu : A.units < cLine) (hp : ∀ v ∈ vs, IsKP s.heap v (k v)) (hq : ∀ v ∈ vs, ∀ u ∈ vs, (k v).1 = (k u).1 → (k v).2 = (k u).2) : SrtO.Cmp prog w A s (tuples' true) (fun p => p.1 ∈ vs) (SrtO.lt2 (ltK k)) := by
  intro p q hm hm'
  have h1 := hp _ hm
  have h2 := hp _ hm'
  have h3 := hq _ hm _ hm'
  show wpAny (model prog w) A (keyLt' (tuples' true) p.1 q.1) (fun r s' => s' = s ∧ r = ltK k p.1 q.1) (fun _ _ => False) s
  unfold ltK
  generalize k p.1 = x at h1 h3 ⊢
  generalize k q.1 = y at h2 h3 ⊢
  obtain ⟨a, b, o, o2, t, u, z, n, n2, e, a1, a2, a3, a4, a5, a6⟩ := h1
  obtain ⟨a', b', o', o2', t', u', z', n', n2', e', b1, b2, b3, b4, b5, b6⟩ := h2
  rw [e, e']
  refine PySem.W.kat_lt a1 a3 b1 b3 ?_
  show PySem.W.KatLex prog w A true (decide (2 < 2)) _ [(.int x.1 t, .int y.1 t'), (.ref b, .ref b')] 0 s
  refine PySem.W.kat_cons (SeqAt.EqAt.int_int x.1 t y.1 t' prog w _ _ ?_)
  refine PySem.W.kat_go (fun e1 => ?_) (fun e1 => ?_)
  · have ex : x.1 = y.1 := by simpa using e1
    have e2 := h3 ex
    rw [← e2] at b6
    refine PySem.W.kat_yes (PySem.W.kat_cons (eq_pairs hu a4 a5 a6 b4 b5 b6 prog w _ _ ?_))
    refine PySem.W.kat_yes (PySem.W.kat_nil ⟨rfl, ?_⟩)
    rw [ex]
    exact (decide_eq_false (Int.lt_irrefl _)).symm
  · exact PySem.W.kat_no (oneLt_int ⟨rfl, rfl⟩)
theorem kp_firsts {h : Heap} : ∀ {vs : List Value}, (∀ v ∈ vs, ∃ k, IsKP h v k) → ∃ fs : List Value, PySem.W.KatTups h vs fs ∧ fs.length = vs.length ∧ ∀ f ∈ fs, ∃ x t, f = Value.int x t
  | [], _ => ⟨[], PySem.W.KatTups.nil, rfl, fun _ hm => by simp at hm⟩
  | v :: vs, hp => by
    obtain ⟨fs, h1, h2, h3⟩ := kp_firsts (vs := vs) fun v' hm => hp v' (List.mem_cons_of_mem _ hm)
    obtain ⟨k, a, b, o, o2, t, u, z, n, n2, e, a1, a2, a3, a4, a5, a6⟩ := hp v (List.mem_cons_self ..)
    subst e
    refine ⟨.int k.1 t :: fs, ?_, by rw [List.length_cons, List.length_cons, h2], fun f hf => ?_⟩
    · exact PySem.W.KatTups.cons a1 a2 a3 rfl h1
    · rcases List.mem_cons.mp hf with rfl | hf
      · exact ⟨_, _, rfl⟩
      · exact h3 f hf
theorem kp_sortable {a : Addr} {vs : List Value} {k : Value → Int × Int × Int} (hu : A.units < cLine) (h0 : 0 < vs.length) (hp : ∀ v ∈ vs, IsKP s.heap v (k v)) (hq : ∀ v ∈ vs, ∀ u ∈ vs, (k v).1 = (k u).1 → (k v).2 = (k u).2) (ha : ∀ o, s.heap.get? a = some o → o.cls ≠ .type "tuple") :
    SrtO.SortableO prog w A s a vs (ltK k) := by
  intro h' keep
  have hp' : ∀ v ∈ vs, IsKP h' v (k v) := fun v hm => (hp v hm).keeps fun b o e c => keep b o (fun z => ha o (z ▸ e) c) e
  obtain ⟨fs, h1, h2, h3⟩ := kp_firsts fun v hm => ⟨_, hp' v hm⟩
  refine ⟨tuples' true, fun Q E hq2 => ?_, kp_cmp hu hp' hq⟩
  refine PySem.W.kat_kind (T := .type "int") h1 (by omega) (fun f hm => ?_) rfl ?_
  · obtain ⟨x, t, rfl⟩ := h3 f hm
    exact PySem.W.Looks.now
  · rw [show (Value.type "int" != Value.type "tuple") = true by decide +kernel]
    exact hq2
theorem sorted_kp {l : Addr} {vs : List Value} {k : Value → Int × Int × Int} {Q : Value → Shared → Prop} (hu : A.in1.in1.units < cLine) (hl : s.heap.IsList l vs.toArray) (hz : vs.length ≤ sizeLine) (hp : ∀ v ∈ vs, IsKP s.heap v (k v)) (hq : ∀ v ∈ vs, ∀ u ∈ vs, (k v).1 = (k u).1 → (k v).2 = (k u).2)
    (h : ∀ (h' : Heap) (d : Addr) (out : List Value), SrtO.Srtd (ltK k) out → SrtO.Stb (ltK k) out vs → (∀ b o, s.heap.get? b = some o → h'.get? b = some o) → s.heap.objs.size ≤ d → (∃ n, h'.get? d = some (seqObj "list" out.toArray n)) → Q (.ref d) { s with heap := h' }) :
    wpAny (model prog w) A (call (.builtin "sorted") [.ref l]) Q E s := by
  refine SrtO.sorted_ord (swo_K k) hl hz (fun h2 h₁ a ha kk => ?_) fun out hs hb => ?_
  · refine kp_sortable (s := { s with heap := h₁ }) hu (by omega) (fun v hm => (hp v hm).keeps fun b o e _ => (kk b o e).2) hq fun o e => ?_
    rw [ha] at e
    cases e
    exact fun c => absurd (Value.type.inj c) (by decide)
  · exact h _ _ out hs hb (fun b o e => sortedAll_old e) (Nat.le_succ _) (sortedAll_at s.heap vs out.toArray)
end
/-- the same order on the values of the layer -/
abbrev ltV (k : V → Int × Int × Int) (x y : V) : Bool := decide ((k x).1 < (k y).1)
theorem ltV_swo (k : V → Int × Int × Int) : SrtO.Swo (ltV k) := by
  refine ⟨fun x y h => ?_, fun x y z h1 h2 => ?_⟩
  · have a := of_decide_eq_true h
    exact decide_eq_false (by omega)
  · have a := of_decide_eq_false h1
    have b := of_decide_eq_false h2
    exact decide_eq_false (by omega)
def rSortK (K : PySem.W.Frag) : List V → Hp → VK → Prop := fun vs H Q => ∃ (a : Addr) (xs : List V) (k : V → Int × Int × Int), vs = [V.ref a] ∧ SqL K H a xs ∧ (∀ x ∈ xs, ∃ t b, x = V.ref t ∧ SqT K H t [.int (k x).1, .ref b] ∧ SqT K H b [.int (k x).2.1, .int (k x).2.2]) ∧
  (∀ x ∈ xs, ∀ y ∈ xs, (k x).1 = (k y).1 → (k x).2 = (k y).2) ∧ ∀ ys p, SrtO.Srtd (ltV k) ys → SrtO.Stb (ltV k) ys xs → H p = none → Q (.ref p) (upd H p (.lst ys))
section
variable {X : Cx}
theorem cr_sortK (hu : X.A.in1.in1.units < cLine) : CallR X (.builtin "sorted") (rSortK X.K) := by
  intro pins s σ H vs us Q I r h
  obtain ⟨a, xs, k, rfl, hs, hx, hq, q⟩ := h
  obtain ⟨its, rv, hl, hz⟩ := I.list hs
  obtain ⟨u, rfl, ru⟩ := r.one
  cases (show u = Value.ref a from ru)
  obtain ⟨e1, e2⟩ := refs_back rv fun x m => by
    obtain ⟨t, b, e, _⟩ := hx x m
    exact ⟨t, e⟩
  have hm : ∀ v ∈ its, backV v ∈ xs := fun v hv => by
    rw [e1]
    exact List.mem_map.mpr ⟨v, hv, rfl⟩
  refine sorted_kp (k := fun u => k (backV u)) hu hl.isList (by rw [← rv.length]; exact hz) (fun v hv => ?_) (fun v hv u hu' => hq _ (hm v hv) _ (hm u hu')) fun h' d out h1 h2 kp hd hn => ?_
  · obtain ⟨t, rfl⟩ := e2 v hv
    obtain ⟨t', b, e, h1, h2⟩ := hx _ (hm _ hv)
    cases e
    obtain ⟨its1, r1, ⟨o1, p1, p2, n1, p3⟩, _⟩ := I.tuple h1
    obtain ⟨its2, r2, ⟨o2, p4, p5, n2, p6⟩, _⟩ := I.tuple h2
    obtain ⟨u1, u2, rfl, ⟨t1, rfl⟩, rj⟩ := vals2 r1
    obtain ⟨u3, u4, rfl, ⟨t3, rfl⟩, ⟨t4, rfl⟩⟩ := vals2 r2
    cases (show u2 = Value.ref b from rj)
    exact ⟨t, b, o1, o2, t1, t3, t4, n1, n2, rfl, p1, p2, p3, p4, p5, p6⟩
  · have h3 : ∀ u ∈ out, ∃ a, u = Value.ref a := fun u hu => e2 u (h2.perm.mem_iff.mp hu)
    obtain ⟨n, hn⟩ := hn
    have hb : SrtO.Stb (ltV k) (out.map backV) xs := by
      rw [e1]
      exact SrtO.Stb.map (ltV_swo k) backV h2
    refine ⟨.ref d, upd H d (.lst (out.map backV)), I.laid (t' := s.toks) kp hd ⟨?_, out, n, vals_back h3, hn⟩, rfl, q _ d (SrtO.srtd_map h1) hb (I.hok.fresh hd)⟩
    rw [hb.len]
    exact hz
end
section
variable {α β : Type}
def insK (f : α → Int) (x : α) : List α → List α
  | [] => [x]
  | y :: r => if f x ≤ f y then x :: y :: r else y :: insK f x r
def sortK (f : α → Int) : List α → List α
  | [] => []
  | x :: r => insK f x (sortK f r)
theorem insK_perm (f : α → Int) (x : α) : ∀ l : List α, (insK f x l).Perm (x :: l)
  | [] => List.Perm.refl _
  | y :: r => by
    unfold insK
    split
    · exact List.Perm.refl _
    · exact ((insK_perm f x r).cons y).trans (List.Perm.swap x y r)
theorem sortK_perm (f : α → Int) : ∀ l : List α, (sortK f l).Perm l
  | [] => List.Perm.refl _
  | x :: r => (insK_perm f x _).trans ((sortK_perm f r).cons x)
theorem insK_sorted (f : α → Int) (x : α) : ∀ {l : List α}, l.Pairwise (fun a b => f a ≤ f b) → (insK f x l).Pairwise (fun a b => f a ≤ f b)
  | [], _ => List.pairwise_singleton _ _
  | y :: r, h => by
    unfold insK
    obtain ⟨h1, h2⟩ := List.pairwise_cons.mp h
    split
    · rename_i hxy
      refine List.pairwise_cons.mpr ⟨fun z hz => ?_, h⟩
      rcases List.mem_cons.mp hz with rfl | hz
      · exact hxy
      · exact Int.le_trans hxy (h1 z hz)
    · rename_i hxy
      refine List.pairwise_cons.mpr ⟨fun z hz => ?_, insK_sorted f x h2⟩
      rcases List.mem_cons.mp ((insK_perm f x r).mem_iff.mp hz) with rfl | hz
      · omega
      · exact h1 z hz
theorem sortK_sorted (f : α → Int) : ∀ l : List α, (sortK f l).Pairwise (fun a b => f a ≤ f b)
  | [] => List.Pairwise.nil
  | x :: r => insK_sorted f x (sortK_sorted f r)
theorem insK_filter (f : α → Int) (c : Int) (x : α) : ∀ l : List α, (insK f x l).filter (fun y => f y == c) = (x :: l).filter (fun y => f y == c)
  | [] => rfl
  | y :: r => by
    unfold insK
    split
    · rfl
    · rename_i hxy
      have ih := insK_filter f c x r
      by_cases hx : f x = c
      · have hy : ¬ f y = c := by omega
        rw [List.filter_cons_of_neg (by simpa using hy), ih, List.filter_cons_of_pos (by simpa using hx), List.filter_cons_of_pos (by simpa using hx), List.filter_cons_of_neg (by simpa using hy)]
      · rw [List.filter_cons_of_neg (a := x) (by simpa using hx), List.filter_cons, List.filter_cons, ih, List.filter_cons_of_neg (a := x) (by simpa using hx)]
theorem sortK_filter (f : α → Int) (c : Int) : ∀ l : List α, (sortK f l).filter (fun y => f y == c) = l.filter (fun y => f y == c)
  | [] => rfl
  | x :: r => by
    show (insK f x (sortK f r)).filter _ = _
    rw [insK_filter, List.filter_cons, List.filter_cons, sortK_filter f c r]
theorem insK_map (f : β → Int) (g : α → β) (x : α) : ∀ l : List α, (insK (fun a => f (g a)) x l).map g = insK f (g x) (l.map g)
  | [] => rfl
  | y :: r => by
    unfold insK
    rw [List.map_cons]
    split
    · rename_i h
      simp only [h, if_true, List.map_cons]
    · rename_i h
      simp only [h, if_false, List.map_cons, insK_map f g x r]
theorem sortK_map (f : β → Int) (g : α → β) : ∀ l : List α, (sortK (fun a => f (g a)) l).map g = sortK f (l.map g)
  | [] => rfl
  | x :: r => by
    show (insK _ x (sortK _ r)).map g = insK f (g x) (sortK f (r.map g))
    rw [insK_map, sortK_map f g r]
end
def keyD : D → Int
  | .tup (.int x :: _) => x
  | _ => 0
def kpD : D → Option (Int × Int × Int)
  | .tup [.int x, .tup [.int p, .int q]] => some (x, p, q)
  | _ => none
def kpDs : List D → Option (List (Int × Int × Int))
  | [] => some []
  | d :: ds => match kpD d, kpDs ds with
    | some a, some as => some (a :: as)
    | _, _ => none
/-- alike in the first: alike -/
def okKP : List (Int × Int × Int) → Bool
  | [] => true
  | a :: r => r.all (fun b => !(a.1 == b.1) || (a.2.1 == b.2.1 && a.2.2 == b.2.2)) && okKP r
theorem okKP_ok : ∀ {l : List (Int × Int × Int)}, okKP l = true → ∀ a ∈ l, ∀ b ∈ l, a.1 = b.1 → a.2 = b.2
  | [], _, a, ha, _, _, _ => by simp at ha
  | c :: r, h, a, ha, b, hb, e => by
    unfold okKP at h
    rw [Bool.and_eq_true, List.all_eq_true] at h
    obtain ⟨h1, h2⟩ := h
    have key : ∀ b ∈ r, c.1 = b.1 → c.2 = b.2 := fun b hb e => by
      have z := h1 b hb
      simp only [e, beq_self_eq_true, Bool.not_true, Bool.false_or, Bool.and_eq_true, beq_iff_eq] at z
      exact Prod.ext z.1 z.2
    rcases List.mem_cons.mp ha with ea | ha'
    · rcases List.mem_cons.mp hb with eb | hb'
      · rw [ea, eb]
      · rw [ea] at e ⊢
        exact key b hb' e
    · rcases List.mem_cons.mp hb with eb | hb'
      · rw [eb] at e ⊢
        exact (key a ha' e.symm).symm
      · exact okKP_ok h2 a ha' b hb' e
def cbSorted : List D → Option R
  | [d] => match seqL d with
    | some ds => match kpDs ds with
      | some l => if okKP l then some (.ol (sortK keyD ds)) else none
      | none => none
    | none => none
  | _ => none
where seqL : D → Option (List D)
  | .lst ds => some ds
  | .frz ds => some ds
  | _ => none
section
variable {K : PySem.W.Frag}
theorem zip_drs {H : Hp} : ∀ {vs : List V} {ds : List D}, DRs K H vs ds → ∀ p ∈ vs.zip ds, DR K H p.1 p.2
  | _, _, .nil, p, h => by simp at h
  | _, _, .cons a t, p, h => by
    rw [List.zip_cons_cons, List.mem_cons] at h
    rcases h with rfl | h
    · exact a
    · exact zip_drs t p h
theorem drs_of {H : Hp} : ∀ {l : List (V × D)}, (∀ p ∈ l, DR K H p.1 p.2) → DRs K H (l.map (·.1)) (l.map (·.2))
  | [], _ => .nil
  | p :: l, h => .cons (h p List.mem_cons_self) (drs_of fun q hq => h q (List.mem_cons_of_mem _ hq))
theorem DRs.zips {H : Hp} : ∀ {vs : List V} {ds : List D}, DRs K H vs ds → (vs.zip ds).map (·.1) = vs ∧ (vs.zip ds).map (·.2) = ds
  | _, _, .nil => ⟨rfl, rfl⟩
  | _, _, .cons a t => by
    obtain ⟨h1, h2⟩ := DRs.zips t
    exact ⟨by rw [List.zip_cons_cons, List.map_cons, h1], by rw [List.zip_cons_cons, List.map_cons, h2]⟩
theorem kpDs_mem : ∀ {ds : List D} {l : List (Int × Int × Int)}, kpDs ds = some l → ∀ d ∈ ds, ∃ a ∈ l, kpD d = some a
  | [], _, _, d, h => by simp at h
  | e :: ds, l, h, d, hd => by
    unfold kpDs at h
    split at h
    case h_2 => cases h
    rename_i a as h1 h2
    cases h
    rcases List.mem_cons.mp hd with rfl | hd
    · exact ⟨a, List.mem_cons_self, h1⟩
    · obtain ⟨b, hb, e⟩ := kpDs_mem h2 d hd
      exact ⟨b, List.mem_cons_of_mem _ hb, e⟩
theorem kpD_key {d : D} {a : Int × Int × Int} (h : kpD d = some a) : keyD d = a.1 := by
  unfold kpD at h
  split at h
  · cases h; rfl
  · cases h
/-- the value's own key: that of the data behind it -/
theorem key_of {H : Hp} {v : V} {d : D} {a : Int × Int × Int} (h : DR K H v d) (e : kpD d = some a) : ∃ t b, v = .ref t ∧ SqT K H t [.int a.1, .ref b] ∧ SqT K H b [.int a.2.1, .int a.2.2] := by
  unfold kpD at e
  split at e
  case h_2 => cases e
  cases e
  cases h with
  | tup h1 d1 =>
    cases d1 with
    | cons a1 d1 =>
      cases d1 with
      | cons a2 d1 =>
        cases d1
        cases a1
        cases a2 with
        | tup h2 d2 =>
          cases d2 with
          | cons b1 d2 =>
            cases d2 with
            | cons b2 d2 =>
              cases d2
              cases b1
              cases b2
              exact ⟨_, _, rfl, h1, h2⟩
theorem sortK_congr {α : Type} {f g : α → Int} : ∀ {l : List α}, (∀ x ∈ l, f x = g x) → sortK f l = sortK g l := by
  have ins : ∀ {x : α} {l : List α}, f x = g x → (∀ y ∈ l, f y = g y) → insK f x l = insK g x l := fun {x l} hx h => by
    induction l with
    | nil => rfl
    | cons y r ih =>
      unfold insK
      rw [hx, h y List.mem_cons_self, ih fun z hz => h z (List.mem_cons_of_mem _ hz)]
  intro l h
  induction l with
  | nil => rfl
  | cons x r ih =>
    show insK f x (sortK f r) = insK g x (sortK g r)
    rw [ih fun z hz => h z (List.mem_cons_of_mem _ hz)]
    exact ins (h x List.mem_cons_self) fun y hy => h y (List.mem_cons_of_mem _ ((sortK_perm g r).mem_iff.mp hy))
theorem sortK_uniq {k : V → Int × Int × Int} {ys xs : List V} (h1 : SrtO.Srtd (ltV k) ys) (h2 : SrtO.Stb (ltV k) ys xs) : ys = sortK (fun v => (k v).1) xs := by
  have s1 : SrtO.Srtd (ltV k) (sortK (fun v => (k v).1) xs) := (sortK_sorted (fun v => (k v).1) xs).imp fun {a b} h => decide_eq_false (by omega)
  have s2 : SrtO.Stb (ltV k) (sortK (fun v => (k v).1) xs) xs := by
    refine ⟨sortK_perm _ _, fun x => ?_⟩
    have e : SrtO.eqv (ltV k) x = fun y => (k y).1 == (k x).1 := funext fun y => by
      unfold SrtO.eqv
      by_cases h : (k y).1 = (k x).1
      · simp [h]
      · have : (k x).1 < (k y).1 ∨ (k y).1 < (k x).1 := by omega
        have hb : ((k y).1 == (k x).1) = false := beq_eq_false_iff_ne.mpr h
        rcases this with z | z
        · have e1 : ltV k x y = true := decide_eq_true z
          show (!ltV k x y && !ltV k y x) = ((k y).1 == (k x).1)
          rw [e1, hb]
          rfl
        · have e1 : ltV k y x = true := decide_eq_true z
          show (!ltV k x y && !ltV k y x) = ((k y).1 == (k x).1)
          rw [e1, hb, Bool.not_true, Bool.and_false]
    rw [e]
    exact sortK_filter (fun v => (k v).1) _ xs
  refine SrtO.stb_uniq (ltV_swo k) h1 s1 ⟨h2.perm.trans s2.perm.symm, fun x => (h2.cls x).trans (s2.cls x).symm⟩
def rSortP (K : PySem.W.Frag) : List V → Hp → VK → Prop := fun vs H Q => ∃ (a : Addr) (ps : List (V × Int × Int × Int)), vs = [V.ref a] ∧ SqL K H a (ps.map (·.1)) ∧ (∀ p ∈ ps, ∃ t b, p.1 = V.ref t ∧ SqT K H t [.int p.2.1, .ref b] ∧ SqT K H b [.int p.2.2.1, .int p.2.2.2]) ∧
  (∀ p ∈ ps, ∀ q ∈ ps, p.2.1 = q.2.1 → p.2.2 = q.2.2) ∧ ∀ p, H p = none → Q (.ref p) (upd H p (.lst ((sortK (fun p => p.2.1) ps).map (·.1))))
theorem cr_sortP {X : Cx} (hu : X.A.in1.in1.units < cLine) : CallR X (.builtin "sorted") (rSortP X.K) := by
  intro pins s σ H vs us Q I r h
  obtain ⟨a, ps, rfl, hs, hx, hq, q⟩ := h
  open Classical in
  let k : V → Int × Int × Int := fun v => if h : ∃ p ∈ ps, p.1 = v then h.choose.2 else (0, 0, 0)
  have hk : ∀ p ∈ ps, k p.1 = p.2 := fun p hp => by
    have hh : ∃ p' ∈ ps, p'.1 = p.1 := ⟨p, hp, rfl⟩
    have e : k p.1 = hh.choose.2 := dif_pos hh
    obtain ⟨m1, m2⟩ := hh.choose_spec
    rw [e]
    generalize hh.choose = p' at m1 m2
    obtain ⟨t, b, e1, h1, h2⟩ := hx p hp
    obtain ⟨t', b', e1', h1', h2'⟩ := hx p' m1
    rw [m2, e1] at e1'
    cases e1'
    have z := I.tuple_inj h1 h1'
    simp only [List.cons.injEq, V.int.injEq, V.ref.injEq, and_true] at z
    obtain ⟨z1, z2⟩ := z
    subst z2
    have y := I.tuple_inj h2 h2'
    simp only [List.cons.injEq, V.int.injEq, and_true] at y
    exact Prod.ext z1.symm (Prod.ext y.1.symm y.2.symm)
  refine cr_sortK hu pins s σ H _ us Q I r ⟨a, ps.map (·.1), k, rfl, hs, fun x hm => ?_, fun x hm y hm' e => ?_, fun ys p h1 h2 hp => ?_⟩
  · obtain ⟨p, hp, rfl⟩ := List.mem_map.mp hm
    obtain ⟨t, b, e, h1, h2⟩ := hx p hp
    rw [hk p hp]
    exact ⟨t, b, e, h1, h2⟩
  · obtain ⟨p, hp, rfl⟩ := List.mem_map.mp hm
    obtain ⟨p', hp', rfl⟩ := List.mem_map.mp hm'
    rw [hk p hp, hk p' hp'] at e ⊢
    exact hq p hp p' hp' e
  · have e : ys = (sortK (fun p => p.2.1) ps).map (·.1) := by
      rw [sortK_uniq h1 h2, ← sortK_map (fun v => (k v).1) (fun p : V × Int × Int × Int => p.1) ps]
      exact congrArg _ (sortK_congr fun p hp => by rw [hk p hp])
    rw [e]
    exact q p hp
theorem cd_sorted : CbD K (rSortP K) cbSorted := fun H Hs xs ds res s h e Q k => by
  unfold cbSorted at e
  split at e
  case h_2 => cases e
  rename_i d
  split at e
  case h_2 => cases e
  rename_i es hes
  split at e
  case h_2 => cases e
  rename_i l hl
  split at e
  case isFalse => cases e
  rename_i hok
  cases e
  have hsq : ∃ a vs, xs = [V.ref a] ∧ SqL K Hs a vs ∧ DRs K Hs vs es := by
    cases h with
    | cons a b =>
      cases b
      unfold cbSorted.seqL at hes
      split at hes
      · cases hes
        cases a with
        | lst h1 d1 => exact ⟨_, _, rfl, SqL.of h1, d1⟩
      · cases hes
        cases a with
        | frz h1 d1 => exact ⟨_, _, rfl, h1, d1⟩
      · cases hes
  obtain ⟨a, vs, rfl, hq, hd⟩ := hsq
  obtain ⟨z1, z2⟩ := hd.zips
  have hm : ∀ p ∈ vs.zip es, ∃ c ∈ l, kpD p.2 = some c := fun p hp => kpDs_mem hl _ (by rw [← z2]; exact List.mem_map.mpr ⟨p, hp, rfl⟩)
  let g : V × D → V × Int × Int × Int := fun p => (p.1, (kpD p.2).getD (0, 0, 0))
  have eg : ∀ p, (g p).1 = p.1 := fun _ => rfl
  have hg : ∀ p ∈ vs.zip es, ∃ c ∈ l, kpD p.2 = some c ∧ (g p).2 = c := fun p hp => by
    obtain ⟨c, c1, c2⟩ := hm p hp
    exact ⟨c, c1, c2, by show (kpD p.2).getD _ = c; rw [c2]; rfl⟩
  refine ⟨a, (vs.zip es).map g, rfl, ?_, fun p hp => ?_, fun p hp p' hp' ee => ?_, fun p hp => ?_⟩
  · have : ((vs.zip es).map g).map (·.1) = vs := by
      rw [List.map_map]
      exact z1
    rw [this]
    exact same_lst s hq
  · obtain ⟨p0, hp0, rfl⟩ := List.mem_map.mp hp
    obtain ⟨c, c1, c2, c3⟩ := hg p0 hp0
    obtain ⟨t, b, e1, h1, h2⟩ := key_of (zip_drs hd p0 hp0) c2
    rw [c3]
    exact ⟨t, b, e1, same_tup s h1, same_tup s h2⟩
  · obtain ⟨p0, hp0, rfl⟩ := List.mem_map.mp hp
    obtain ⟨p1, hp1, rfl⟩ := List.mem_map.mp hp'
    obtain ⟨c, c1, c2, c3⟩ := hg p0 hp0
    obtain ⟨c', c1', c2', c3'⟩ := hg p1 hp1
    rw [c3, c3'] at ee ⊢
    exact okKP_ok hok c c1 c' c1' ee
  · have e1 : (sortK (fun p : V × Int × Int × Int => p.2.1) ((vs.zip es).map g)).map (·.1) = (sortK (fun p : V × D => keyD p.2) (vs.zip es)).map (·.1) := by
      rw [← sortK_map (fun p : V × Int × Int × Int => p.2.1) g (vs.zip es), List.map_map]
      rw [show ((fun x : V × Int × Int × Int => x.1) ∘ g) = (fun p : V × D => p.1) from rfl]
      refine congrArg _ (sortK_congr fun p hp => ?_)
      obtain ⟨c, c1, c2, c3⟩ := hg p hp
      rw [c3, kpD_key c2]
    have e2 : (sortK (fun p : V × D => keyD p.2) (vs.zip es)).map (·.2) = sortK keyD es := by
      rw [sortK_map keyD (fun p : V × D => p.2) (vs.zip es), z2]
    have hdr : DRs K Hs ((sortK (fun p : V × D => keyD p.2) (vs.zip es)).map (·.1)) (sortK keyD es) := by
      rw [← e2]
      exact drs_of fun p hp => zip_drs hd p ((sortK_perm _ _).mem_iff.mp hp)
    rw [e1]
    exact k _ _ Hs (Ext.hid s hp) ⟨p, _, rfl, hp, upd_same, none_sub s hp, _, rfl, hdr⟩
end
end Bk
namespace Bk
open PySem L2
/-- a method of the text -/
structure FnM (K : PySem.W.Frag) (C : Addr) (x qual : PySem.Str) (st : Stmt) where
  f : Addr
  fd : FuncData
  F : Fun K x qual st f fd
  m : Meth K C x f
/-- a def of the text with defaults -/
structure FnD (K : PySem.W.Frag) (mg : PySem.Str → Option Value) (x : PySem.Str) (st : Stmt) (dds : List D) where
  f : Addr
  fd : FuncData
  dvs : List V
  F : FunD K x x (defArgs st) (defBody st) (defScope st) dvs [] f fd
  m : mg x = some (.ref f)
  d : ∀ H, DRs K H dvs dds
/-- a method of the text with defaults -/
structure FnMD (K : PySem.W.Frag) (C : Addr) (x qual : PySem.Str) (st : Stmt) (dds : List D) where
  f : Addr
  fd : FuncData
  dvs : List V
  F : FunD K x qual (defArgs st) (defBody st) (defScope st) dvs [] f fd
  m : Meth K C x f
  d : ∀ H, DRs K H dvs dds
section
variable {P : Program} {w : World} {K : PySem.W.Frag} {mg : PySem.Str → Option Value} {base : Heap}
theorem data_FD {x qual : PySem.Str} {st : Stmt} {f : Addr} {fd : FuncData} {dvs : List V} {N ps : List PySem.Str} {k : Nat} {b : MS} (F : FunD K x qual (defArgs st) (defBody st) (defScope st) dvs [] f fd) (S : FnScope N ps (defScope st))
    (hb : ∀ (cdv : Value) (A : Around) (outer : List Env) (s : Shared) (H : Hp) (E : XK), Room k (A.deeper (PyProof.Rows.envOfC qual (defScope st) s.heap.objs.size f cdv)) →
      ∃ t, PSs (cxOf CX0 P w K mg base N qual (defScope st) f cdv A outer s H E).nox (defBody st) t ∧ SOk K t b) : FnOk P w K mg base CX0 (k + 1) f fd ps (spF K (runF ps.length N.length b)) :=
  F.ok S (fun vs H Q E q => spF_len q) fun cdv A outer s H vs Q E hr q => by
    obtain ⟨t, h1, h2⟩ := hb cdv A outer s H E hr
    exact ⟨t, PSs.nox h1, fin_F h2 (scope_le S) q⟩
theorem data_BD {x qual : PySem.Str} {st : Stmt} {f : Addr} {fd : FuncData} {dvs : List V} {N ps : List PySem.Str} {k : Nat} {b : MS} (F : FunD K x qual (defArgs st) (defBody st) (defScope st) dvs [] f fd) (S : FnScope N ps (defScope st))
    (hb : ∀ (cdv : Value) (A : Around) (outer : List Env) (s : Shared) (H : Hp) (E : XK), Room k (A.deeper (PyProof.Rows.envOfC qual (defScope st) s.heap.objs.size f cdv)) →
      ∃ t, PSs (cxOf CX0 P w K mg base N qual (defScope st) f cdv A outer s H E).nox (defBody st) t ∧ SOk K t b) : FnOk P w K mg base CX0 (k + 1) f fd ps (spB K (runB ps.length N.length b)) :=
  F.ok S (fun vs H Q E q => spB_len q) fun cdv A outer s H vs Q E hr q => by
    obtain ⟨t, h1, h2⟩ := hb cdv A outer s H E hr
    exact ⟨t, PSs.nox h1, fin_B h2 (scope_le S) q⟩
end
/-- a call that fills up defaults -/
def xcallD (m : List D → Option R) (dds : List D) (a : M (List D)) : M R := fun G => bd (a G) fun xs G1 => match m (xs ++ dds) with
  | some r => some (r, G1)
  | none => none
section
variable {K : PySem.W.Frag} {mg : PySem.Str → Option Value}
theorem gk_callD {m : List D → Option R} {dds : List D} {dvs : List V} {E : XK} {ta : TA} {a : M (List D)} (hd : ∀ H, DRs K H dvs dds) (ha : AOk K ta a) : GOk K (tCall (spF K m) dvs E ta) (xcallD m dds a) := fun Fz ba G σ H Hs res G' q e Q k => by
  obtain ⟨xs, G1, e1, e⟩ := bd_inv e
  split at e
  case h_2 => cases e
  rename_i r h
  cases e
  refine ha Fz ba G σ H Hs xs _ q e1 _ fun vs H1 Hs1 q1 s1 d1 => ?_
  exact ⟨Hs1, _, _, q1.sub, d1.app (hd _), h, fun v H3 Hs3 ex rf => k v H3 Hs3 (q1.ext ex) (s1.trans ex.b) (rf.res q1)⟩
theorem drs_drop {H : Hp} {vs : List V} {ds : List D} (h : DRs K H vs ds) (n : Nat) : DRs K H (vs.drop n) (ds.drop n) := h.drop n
variable {X : Cx} (hK : X.K = K)
include hK
theorem kop_addB : OpR X (binaryOp .Add) (rAddB K) := hK ▸ op_addB
theorem ksl_B : SlR X (rSlB K) := hK ▸ sl_B
theorem kpa_star {e : Expr} {es : List Expr} {te : TE} {t : TA} {p : Pos} (he : PE X e te) (hr : PA X es t) (hs : starEach (.Starred e p :: es) X.env = (true, eval e X.env) :: starEach es X.env := by rfl) : PA X (.Starred e p :: es) (StX.tStar K te t) := hK ▸ StX.pa_star he hr hs
theorem kpe_fld {e : Expr} {f : PySem.Str} {pos : Pos} {ta : TE} (he : PE X e ta) (hb : attributeBase e f X.env (eval e X.env) = eval e X.env) : PE X (.Attribute e f pos) (tFld K ta f) := hK ▸ pe_fld he hb
theorem kps_fld {o value : Expr} {f : PySem.Str} {pos pos' : Pos} {ta tv : TE} (ha : PE X o ta) (hv : PE X value tv) (hs : swapsWith value (some (.Attribute o f pos')) pos.line X.env = pure false) : PS X (.Assign [.Attribute o f pos'] value pos) (sFld K ta tv f) := hK ▸ ps_fld ha hv hs
theorem kpg_fld {o : Expr} {f : PySem.Str} {pos : Pos} {ta : TE} (ho : PE X o ta) : PG X (.Attribute o f pos) (gFld K ta f) := hK ▸ pg_fld ho
theorem kcr_isiS : CallR X (.builtin "isinstance") (rIsiS K) := hK ▸ cr_isiS
theorem kcr_sorted (hu : X.A.in1.in1.units < cLine) : CallR X (.builtin "sorted") (rSortP K) := hK ▸ cr_sortP hu
end
theorem room_u2 {k : Nat} {A : Around} (hr : Room k A) : A.in1.in1.units < cLine := by
  have := hr.units
  show A.units + 1 + 1 < cLine
  omega
section
variable {K : PySem.W.Frag} {mg : PySem.Str → Option Value}
def isIns (c : Nat) (G : Gam) (i : Nat) : Bool := match G[i]? with
  | some e => match e.mu with
    | some (.o c' _) => c' == c
    | _ => false
  | none => false
theorem isIns_ok {c : Nat} {G : Gam} {i : Nat} (h : isIns c G i = true) : ∃ e ds, G[i]? = some e ∧ e.mu = some (.o c ds) := by
  unfold isIns at h
  cases z : G[i]? with
  | none => rw [z] at h; cases h
  | some e =>
    rw [z] at h
    cases y : e.mu with
    | none => simp only [y] at h; cases h
    | some m =>
      cases m with
      | l _ => simp only [y] at h; cases h
      | o c' ds =>
        simp only [y] at h
        have z2 := beq_iff_eq.mp h
        subst z2
        exact ⟨e, ds, rfl, y⟩
theorem isIns_mu {c : Nat} {G : Gam} {i : Nat} (h : isIns c G i = true) : isMu G i = true := by
  obtain ⟨e, ds, h1, h2⟩ := isIns_ok h
  unfold isMu
  rw [h1]
  simp only [h2]
  rfl
def xmethB (i c : Nat) (m : Mob → List D → Option (R × Mob)) (dds : List D) (a : M (List D)) : M R := fun G => if isIns c G i then bd (a G) fun xs G1 => if isIns c G1 i then callB m i (xs ++ dds) G1 else none else none
end
end Bk
namespace Bk
open PySem L2
section
variable {K : PySem.W.Frag} {C : Addr}
theorem na_list1 {a : PySem.Str} (h1 : NoAttr K C a) : ∀ f ∈ [a], NoAttr K C f := fun f h => by
  rw [List.mem_singleton] at h
  rw [h]
  exact h1
theorem na_cons {a : PySem.Str} {l : List PySem.Str} (h1 : NoAttr K C a) (h : ∀ f ∈ l, NoAttr K C f) : ∀ f ∈ a :: l, NoAttr K C f := fun f hf => by
  rcases List.mem_cons.mp hf with z | z
  · rw [z]; exact h1
  · exact h f z
theorem na_list2 {a b : PySem.Str} (h1 : NoAttr K C a) (h2 : NoAttr K C b) : ∀ f ∈ [a, b], NoAttr K C f := na_cons h1 (na_list1 h2)
theorem na_list3 {a b c : PySem.Str} (h1 : NoAttr K C a) (h2 : NoAttr K C b) (h3 : NoAttr K C c) : ∀ f ∈ [a, b, c], NoAttr K C f := na_cons h1 (na_list2 h2 h3)
theorem na_list4 {a b c d : PySem.Str} (h1 : NoAttr K C a) (h2 : NoAttr K C b) (h3 : NoAttr K C c) (h4 : NoAttr K C d) : ∀ f ∈ [a, b, c, d], NoAttr K C f := na_cons h1 (na_list3 h2 h3 h4)
theorem ot_list (h0 : PySem.W.kitOne K (.type "NoneType") (.ref C) = some false) (h1 : PySem.W.kitOne K (.type "bool") (.ref C) = some false) (h2 : PySem.W.kitOne K (.type "int") (.ref C) = some false)
    (h3 : PySem.W.kitOne K (.type "str") (.ref C) = some false) (h4 : PySem.W.kitOne K (.type "list") (.ref C) = some false) (h5 : PySem.W.kitOne K (.type "tuple") (.ref C) = some false) : ∀ t ∈ ["NoneType", "bool", "int", "str", "list", "tuple"], PySem.W.kitOne K (.type t) (.ref C) = some false := fun t h => by
  simp only [List.mem_cons, List.not_mem_nil, or_false] at h
  rcases h with rfl | rfl | rfl | rfl | rfl | rfl
  · exact h0
  · exact h1
  · exact h2
  · exact h3
  · exact h4
  · exact h5
def coInt {h : Heap} {mg : PySem.Str → Option Value} {x : PySem.Str} {i : Int} {t : Tok} (X : K.In h) (G : h.Ns mainGlobals mg) (ha : PySem.W.nsIn K mainGlobals x = some (some (.int i t))) : CoT K mg x (.int i) :=
  ⟨.int i, .int i t, PySem.W.mg_of X G ha, ⟨t, rfl⟩, fun _ => .int i⟩
def coStr {h : Heap} {mg : PySem.Str → Option Value} {x : PySem.Str} {i : PySem.Str} {t : Tok} (X : K.In h) (G : h.Ns mainGlobals mg) (ha : PySem.W.nsIn K mainGlobals x = some (some (.str i t))) : CoT K mg x (.str i) :=
  ⟨.str i, .str i t, PySem.W.mg_of X G ha, ⟨t, rfl⟩, fun _ => .str i⟩
theorem vne {vs : List V} {d : D} {ds ds' : List D} (h : ∀ H, DRs K H vs ds) (e : ds = d :: ds') : vs ≠ [] := fun z => by
  have z2 := (h fun _ => none).len
  rw [z, e] at z2
  cases z2
end
end Bk
namespace Bk
open PySem PySem.Spec PyProof.Rows L2
abbrev freshSet (w : World) : Obj := { cls := .type "set", dict := none, data := .set #[] 0 (.fresh 0 0 (!w.params.followText "set-order")) }
section
variable {P : Program} {w : World} {A : Around} {E : Value → Shared → Prop} {s : Shared}
theorem ints_get {its : Array Value} {ns : List Int} (hi : IntsAre its.toList ns) (hz : its.size = ns.length) (j : Nat) (u : Value) (hu : its[j]? = some u) : ∃ z t, ns[j]? = some z ∧ u = .int z t := by
  have hj : j < ns.length := hz ▸ (Array.getElem?_eq_some_iff.mp hu).1
  obtain ⟨t, et⟩ := IntsAre.int_at hi j u (by rw [Array.getElem?_toList, hu])
  refine ⟨_, t, List.getElem?_eq_getElem hj, et.trans ?_⟩
  rw [List.getD_eq_getElem?_getD, List.getElem?_eq_getElem hj]
  rfl
def SetPost (w : World) (s : Shared) (ns : List Int) (v : Value) (t : Shared) : Prop := v = .none ∧ ∃ (hp : Heap) (tk c : Nat), t = { s with heap := hp, toks := tk } ∧ SetR w hp s.heap.objs.size (fun j => decide (j ∈ ns)) c ∧ c ≤ ns.length ∧ ∀ b o, s.heap.get? b = some o → hp.get? b = some o
theorem set_of_list {l : Addr} {its : Array Value} (ns : List Int) {Q : Value → Shared → Prop} (hh : A.handled = none) (hl : s.heap.IsList l its) (hi : IntsAre its.toList ns) (hb : ns.length + 1 < scanBound)
    (fin : ∀ (hp : Heap) (tk c : Nat), SetR w hp s.heap.objs.size (fun j => decide (j ∈ ns)) c → c ≤ ns.length → (∀ b o, s.heap.get? b = some o → hp.get? b = some o) → Q (.ref s.heap.objs.size) { s with heap := hp, toks := tk }) :
    wpAny (model P w) A (call (.type "set") [.ref l]) Q E s := by
  have hz : its.size = ns.length := by
    have := IntsAre.length hi
    rwa [Array.length_toList] at this
  obtain ⟨mc, mt, mro⟩ := F.called_set.mro
  have made := F.called_set.made
  have sub0 := F.called_set.sub
  have nt := F.called_set.notType
  have cc := F.called_set.canCreate
  have tc := F.typeCall_set_1 (.ref l)
  refine wpAny_call (codeAny_of_tree ?_)
  show wpAny _ _ (callAny (.type "set") _) _ _ _
  refine wpAny_pure ⟨Code.quiet_builtin _ (by decide +kernel), ?_⟩
  refine codeAny_builtin F.entry_type_call ?_
  rw [Around.under_plain (weight_type_call_type "set" [.ref l] []) rfl]
  repeat (any_goals (first | assumption | wp_step))
  refine codeAny_mono (code_set_led1 (.ref l) (E := E) (Q₁ := fun v t => v = .ref s.heap.objs.size ∧ t = { s with heap := s.heap.push (freshSet w) }) ⟨rfl, rfl⟩) fun res t hres => ?_
  match res, hres with
  | .error _, hres => exact hres
  | .ok (.ret v), hres =>
    obtain ⟨ev, et⟩ := hres
    subst ev
    subst et
    have new : (s.heap.push (freshSet w)).get? s.heap.objs.size = some (freshSet w) := Heap.get?_push_size _ rfl
    have isS : Shared.TypeIs { s with heap := s.heap.push (freshSet w) } (.ref s.heap.objs.size) "set" := ⟨_, new, rfl⟩
    have il := F.called_set.init.lookup
    have ib := F.called_set.init.bind (.ref s.heap.objs.size)
    repeat (any_goals (first | assumption | wp_step))
    refine codeAny_mono (codeAny_call_builtin (R := wants (SetPost w s ns) E) F.called_set.init.plain F.entry_set_init (check_set_init_1 isS ?_)) fun res2 t2 hres2 => ?_
    · have hl0 := hl
      obtain ⟨ol, gl, cl, nl, dl⟩ := hl
      have gl1 : (s.heap.push (freshSet w)).get? l = some ol := Heap.get?_push_of_some _ gl
      obtain ⟨oc, oo, od, os⟩ := ol
      simp only at cl dl
      subst cl
      subst dl
      have s1 := F.sub_list_set
      have s2 := F.sub_list_frozenset
      have ndict : (Value.type "list" == Value.type "dict") = false := by decide
      have hl1 : (s.heap.push (freshSet w)).IsList l its := hl0.push _
      unfold Builtin.«set.__init__» noKeywords Builtin.Frozenset.updateFrom
      generalize hPI : pyIter = PI
      wp_walk
      subst hPI
      refine wpAny_pyIter_list hl1 (wpAny_bind (wpAny_runValue ?_))
      have lt1 : l < s.heap.objs.size := Heap.lt_size gl
      have h3 : A.in1.in1.in1.handled = none := by simp [hh]
      have zz : (s.heap.push (freshSet w)).objs.size = s.heap.objs.size + 1 := Heap.size_push ..
      have nI : l ≠ (s.heap.push (freshSet w)).objs.size := by
        rw [Heap.size_push]
        exact Nat.ne_of_lt (Nat.lt_succ_of_lt lt1)
      have nS : s.heap.objs.size ∉ [(s.heap.push (freshSet w)).objs.size, l] := by
        simp only [List.mem_cons, List.not_mem_nil, or_false, not_or, Heap.size_push]
        exact ⟨Nat.ne_of_lt (Nat.lt_succ_self _), Nat.ne_of_gt lt1⟩
      refine set_update_ints ((Walks.list h3 _ l nI its).toS) s.heap.objs.size nS ns hz hb (ints_get hi hz) (its.size - 0) 0 _ (by omega) (by omega) ⟨⟨_, Heap.get?_push_size _ rfl, rfl, rfl⟩, hl1.push _⟩ ⟨0, Nat.le_refl 0, setR_new_at (Heap.get?_push_of_some _ new)⟩ ?_
      intro t3 c mv hc R3
      obtain ⟨hp, gg, dr, tk, oz⟩ := t3
      have q1 : gg = s.gens := mv.gens
      have q2 : dr = s.drawn := mv.drawn
      have q3 : oz = s.os := mv.os
      subst q1
      subst q2
      subst q3
      show wpAny _ _ _ _ _ _
      refine wpAny_pure ?_
      show wpAny _ _ (ret Value.none) _ _ _
      refine wpAny_pure ⟨rfl, hp, tk, c, rfl, R3, hz ▸ hc, fun b o e => ?_⟩
      have lb : b < s.heap.objs.size := Heap.lt_size e
      refine mv.heap b o ?_ (Heap.get?_push_of_some _ (Heap.get?_push_of_some _ e))
      simp only [List.mem_cons, List.not_mem_nil, or_false, not_or, Heap.size_push]
      exact ⟨Nat.ne_of_lt lb, Nat.ne_of_lt (Nat.lt_succ_of_lt lb)⟩
    · match res2, hres2 with
      | .error _, z => exact z
      | .ok (.ret _), z =>
        obtain ⟨e1, hp, tk, c, e2, e3, e4, e5⟩ := z
        subst e1
        subst e2
        repeat (any_goals (first | assumption | wp_step))
        exact fin _ _ _ e3 e4 e5
end
/-- set(xs), xs a list of ints -/
def rSetInts (K : PySem.W.Frag) (w : World) : List V → Hp → VK → Prop := fun vs H Q => ∃ (a : Addr) (ns : List Int), vs = [V.ref a] ∧ SqL K H a (ns.map V.int) ∧ ns.length < 4000 ∧
  ∀ (p : Addr) (c : Nat), H p = none → c ≤ ns.length → Q (.ref p) (upd H p (SetO w p (fun j => decide (j ∈ ns)) c))
theorem cr_setInts {X : Cx} (hc : X.calm = true) : CallR X (.type "set") (rSetInts X.K X.w) := by
  intro pins s σ H vs us Q I r h
  obtain ⟨a, ns, rfl, hl, hn, q⟩ := h
  obtain ⟨its, rv, pl, _⟩ := I.list hl
  rw [Vals.ref1 r]
  refine set_of_list ns (I.ok.hd hc) pl.isList (by simpa using ints_of_vals rv) (by unfold scanBound; omega) fun hp tk c R3 hc3 kp => ?_
  exact ⟨.ref s.heap.objs.size, upd H s.heap.objs.size (SetO X.w s.heap.objs.size (fun j => decide (j ∈ ns)) c), I.laid (t' := tk) kp (Nat.le_refl _) (setO_new R3), rfl, q _ c (I.hok.fresh (Nat.le_refl _)) hc3⟩
def insI (x : Int) : List Int → List Int
  | [] => [x]
  | y :: r => if x < y then x :: y :: r else if x = y then y :: r else y :: insI x r
def ascI (l : List Int) : List Int := l.foldr insI []
theorem mem_insI {x q : Int} : ∀ {l : List Int}, q ∈ insI x l ↔ q = x ∨ q ∈ l
  | [] => by simp [insI]
  | y :: r => by
    unfold insI
    split
    · simp
    · split
      · rename_i h1 h2
        subst h2
        simp
      · simp only [List.mem_cons, mem_insI]
        constructor
        · rintro (h | h | h) <;> simp [h]
        · rintro (h | h | h) <;> simp [h]
theorem mem_ascI {q : Int} : ∀ {l : List Int}, q ∈ ascI l ↔ q ∈ l
  | [] => by simp [ascI]
  | x :: l => by
    show q ∈ insI x (ascI l) ↔ _
    rw [mem_insI, mem_ascI, List.mem_cons]
theorem insI_sorted {x : Int} : ∀ {l : List Int}, l.Pairwise (· < ·) → (insI x l).Pairwise (· < ·)
  | [], _ => by simp [insI]
  | y :: r, h => by
    have h1 := List.pairwise_cons.mp h
    unfold insI
    split
    · rename_i hx
      refine List.pairwise_cons.mpr ⟨fun z hz => ?_, h⟩
      rcases List.mem_cons.mp hz with rfl | hz
      · exact hx
      · have := h1.1 z hz
        omega
    · split
      · exact h
      · refine List.pairwise_cons.mpr ⟨fun z hz => ?_, insI_sorted h1.2⟩
        rcases mem_insI.mp hz with rfl | hz
        · omega
        · exact h1.1 z hz
theorem ascI_sorted : ∀ l : List Int, (ascI l).Pairwise (· < ·)
  | [] => by simp [ascI]
  | x :: l => insI_sorted (ascI_sorted l)
theorem uniqI : ∀ {a b : List Int}, a.Pairwise (· < ·) → b.Pairwise (· < ·) → (∀ q, q ∈ a ↔ q ∈ b) → a = b
  | [], [], _, _, _ => rfl
  | [], y :: b, _, _, h => absurd ((h y).mpr List.mem_cons_self) (by simp)
  | x :: a, [], _, _, h => absurd ((h x).mp List.mem_cons_self) (by simp)
  | x :: a, y :: b, ha, hb, h => by
    have ha1 := List.pairwise_cons.mp ha
    have hb1 := List.pairwise_cons.mp hb
    have e : x = y := by
      have h1 := (h x).mp List.mem_cons_self
      have h2 := (h y).mpr List.mem_cons_self
      rcases List.mem_cons.mp h1 with e | h1
      · exact e
      · rcases List.mem_cons.mp h2 with e | h2
        · exact e.symm
        · have := hb1.1 x h1
          have := ha1.1 y h2
          omega
    subst e
    refine congrArg (x :: ·) (uniqI ha1.2 hb1.2 fun q => ?_)
    constructor
    · intro hq
      rcases List.mem_cons.mp ((h q).mp (List.mem_cons_of_mem _ hq)) with rfl | h3
      · have := ha1.1 q hq
        omega
      · exact h3
    · intro hq
      rcases List.mem_cons.mp ((h q).mpr (List.mem_cons_of_mem _ hq)) with rfl | h3
      · have := hb1.1 q hq
        omega
      · exact h3
def intsD : List D → Option (List Int)
  | [] => some []
  | .int i :: r => (intsD r).map (i :: ·)
  | _ :: _ => none
/-- sorted(set(x)), x a list of ints, fewer than 64 -/
def cbSortSet (xs : List D) : Option R := match xs with
  | [.lst ds] => match intsD ds with
    | some ns => if ns.length < 64 then some (.ol ((ascI ns).map .int)) else none
    | none => none
  | _ => none
def rSortSet (K : PySem.W.Frag) (w : World) : List V → Hp → VK → Prop := fun vs H Q => rSetInts K w vs H fun v H' => rSortedSet w [v] H' Q
section
variable {K : PySem.W.Frag}
theorem intsD_ok {H : Hp} : ∀ {ds : List D} {vs : List V} {ns : List Int}, DRs K H vs ds → intsD ds = some ns → vs = ns.map V.int
  | [], _, ns, h, e => by
    cases h
    cases e
    rfl
  | d :: ds, _, ns, h, e => by
    cases h with
    | cons a b =>
      cases d with
      | int i =>
        cases a
        unfold intsD at e
        cases z : intsD ds with
        | none => rw [z] at e; cases e
        | some ms =>
          rw [z] at e
          cases e
          rw [intsD_ok b z]
          rfl
      | _ => cases e
theorem drs_ints {H : Hp} : ∀ ns : List Int, DRs K H (ns.map V.int) (ns.map D.int)
  | [] => .nil
  | n :: ns => .cons (.int n) (drs_ints ns)
theorem cd_sortSet {w : World} : CbD K (rSortSet K w) cbSortSet := fun H Hs xs ds res s h e Q k => by
  unfold cbSortSet at e
  split at e
  case h_2 => cases e
  rename_i es
  split at e
  case h_2 => cases e
  rename_i ns hns
  split at e
  case isFalse => cases e
  rename_i h64
  cases e
  cases h with
  | cons a b =>
    cases b
    cases a with
    | lst h1 d1 =>
      rename_i l vs
      have ev := intsD_ok d1 hns
      subst ev
      refine ⟨l, ns, rfl, same_lst s (SqL.of h1), by omega, fun p c hp hc => ?_⟩
      refine ⟨p, _, c, rfl, upd_same, by omega, fun ms p2 m1 m2 m3 hp2 => ?_⟩
      have em : ms = ascI ns := uniqI m1 (ascI_sorted ns) fun q => by
        rw [m2, mem_ascI]
        exact decide_eq_true_iff
      subst em
      have x1 : Ext H Hs (upd H p (SetO w p (fun j => decide (j ∈ ns)) c)) Hs := Ext.hid s hp
      have hn : H p2 = none := by
        cases z : H p2 with
        | none => rfl
        | some u =>
          have := x1.a p2 u z
          rw [hp2] at this
          cases this
      exact k _ _ Hs (x1.trans (Ext.hid x1.c hp2)) ⟨p2, _, rfl, hn, upd_same, none_sub s hn, _, rfl, drs_ints _⟩
theorem gk_sortSet {w : World} {ta : TA} {a : M (List D)} (ha : AOk K ta a) : GOk K (tCB (rSortedSet w) (tCons (tCB (rSetInts K w) ta) tNil)) (xcb cbSortSet a) := by
  have h : GOk K (tCB (rSortSet K w) ta) (xcb cbSortSet a) := gk_cb cd_sortSet ha
  exact h
/-- products, those of tuples too -/
def opMulB (x y : D) : Option R := match opMul x y with
  | some r => some r
  | none => match x, y with
    | .tup (d :: ds), .int k => if decide (2 ≤ k) && decide (k ≤ 1000) && decide (ds.length < 1000) then some (.im (.tup (List.replicate k.toNat (d :: ds)).flatten)) else none
    | _, _ => none
def rMulB (K : PySem.W.Frag) : R2 := fun x y H Q => rMulA x y H Q ∨ rRepT K x y H Q
theorem drs_rep {H : Hp} {vs : List V} {ds : List D} (h : DRs K H vs ds) : ∀ n : Nat, DRs K H (List.replicate n vs).flatten (List.replicate n ds).flatten
  | 0 => .nil
  | n + 1 => by
    rw [List.replicate_succ, List.replicate_succ, List.flatten_cons, List.flatten_cons]
    exact h.app (drs_rep h n)
theorem od_mulB : OpD K (rMulB K) opMulB := fun H Hs x y dx dy res s hx hy e Q k => by
  unfold opMulB at e
  split at e
  · rename_i r h
    cases e
    exact .inl (od_mul H Hs x y dx dy _ s hx hy h Q k)
  · split at e
    case h_2 => cases e
    split at e
    case isFalse => cases e
    rename_i d ds n _ hok
    cases e
    simp only [Bool.and_eq_true, decide_eq_true_eq] at hok
    cases hx with
    | tup h1 h2 =>
      rename_i a vs
      cases hy
      have hl := h2.len
      refine .inr ⟨a, n, vs, rfl, rfl, same_tup s h1, ?_, hok.1.1, hok.1.2, by rw [hl, List.length_cons]; omega, fun p hp => ?_⟩
      · intro z
        rw [z] at hl
        simp at hl
      · have ex : Ext H Hs (upd H p (.tup (List.replicate n.toNat vs).flatten)) (upd Hs p (.tup (List.replicate n.toNat vs).flatten)) := Ext.new s hp
        exact k _ _ _ ex (.tup (SqT.of upd_same) ((drs_rep h2 _).mono ex.b))
/-- a def of the text that is called by another name -/
structure FnA (K : PySem.W.Frag) (mg : PySem.Str → Option Value) (g x : PySem.Str) (st : Stmt) where
  f : Addr
  fd : FuncData
  F : Fun K x x st f fd
  m : mg g = some (.ref f)
theorem kcr_setInts {X : Cx} (hK : X.K = K) (hc : X.calm = true) : CallR X (.type "set") (rSetInts K X.w) := hK ▸ cr_setInts hc
end
end Bk
namespace Bk
open PySem L2
def opInB (neg : Bool) (x y : D) : Option R := match opIn neg x y with
  | some r => some r
  | none => match toPy x, toPy y with
    | some p, some (.list ps) => if SeqAt.shaped p && SeqAt.shaped (.list ps) then some (.im (.bl (if neg then !(ps.any fun z => PyData.eqv z p) else ps.any fun z => PyData.eqv z p))) else none
    | _, _ => none
section
variable {K : PySem.W.Frag}
def rInB (K : PySem.W.Frag) (neg : Bool) : R2 := fun x y H Q => rInA K neg x y H Q ∨ (if neg then rNotInD K x y H Q else rInD K x y H Q)
theorem kop_inB {X : Cx} (hK : X.K = K) (hu : X.A.units + 70 < cLine) : OpR X (compareOp .In) (rInB K false) := hK ▸ (op_inA.or (op_inD (by omega)))
theorem kop_notInB {X : Cx} (hK : X.K = K) (hu : X.A.units + 70 < cLine) : OpR X (compareOp .NotIn) (rInB K true) := hK ▸ (op_notInA.or (op_notInD (by omega)))
theorem od_inB {neg : Bool} : OpD K (rInB K neg) (opInB neg) := fun H Hs x y dx dy res s hx hy e Q k => by
  unfold opInB at e
  split at e
  · rename_i r h
    cases e
    exact .inl (od_in H Hs x y dx dy _ s hx hy h Q k)
  · split at e
    case h_2 => cases e
    rename_i p ps h1 h2
    split at e
    case isFalse => cases e
    rename_i hok
    cases e
    rw [Bool.and_eq_true] at hok
    refine .inr ?_
    cases neg
    · exact ⟨p, ps, dp_mono s hx h1, dp_mono s hy h2, hok.1, hok.2, k _ H Hs (Ext.refl s) (.bl _)⟩
    · exact ⟨p, ps, dp_mono s hx h1, dp_mono s hy h2, hok.1, hok.2, k _ H Hs (Ext.refl s) (.bl _)⟩
end
end Bk
namespace Bk
open PySem L2
section
variable {X : Cx} {K : PySem.W.Frag}
theorem pget_list : PGet X (rIxL X.K) := by
  intro pins s σ H x y v u Q I rx ry h
  obtain ⟨p, xs, i, z, rfl, rfl, hq, he, q⟩ := h
  cases rx
  obtain ⟨t, rfl⟩ := ry
  obtain ⟨its, r, pl, hz⟩ := I.list hq
  obtain ⟨j, h1, h2, h3, h4, h5⟩ := atI_get he
  obtain ⟨w, ew, rw'⟩ := r.get h2
  have hl := r.length
  have hn := line63
  have fin : EP X pins σ Q w s := ⟨z, H, I, rw', q⟩
  by_cases h0 : 0 ≤ i
  · have hj : i.toNat = j := by
      rw [seqIndex_of h0 h5] at h1
      exact Option.some.inj h1
    exact wpAny_getItem_list pl.isList h0 (by omega) (by rw [hj]; simpa using ew) fin
  · have hj : (i + (its.toArray.size : Int)).toNat = j := by
      rw [seqIndex_neg (by omega) h4] at h1
      rw [List.size_toArray, ← hl]
      exact Option.some.inj h1
    exact wpAny_getItem_list_neg pl.isList (by omega) (by rw [List.size_toArray] <;> omega) (by omega) (by rw [hj]; simpa using ew) fin
theorem pget_lst (hK : X.K = K) : PGet X (rIxL K) := hK ▸ pget_list
theorem sk_augS {i : Nat} {te tk : TE} {r : TIp} {o : D → D → Option R} {a b : M R} (ho : OpD K r o) (hb : GOk K tk b) (ha : GOk K te a) : SOk K (tAugS (tVar i) tk te (rIxL K) r rSetL) (xaugs i o b a) := fun Fz ba G σ H Hs fl G' q e Dn p => by
  unfold xaugs at e
  split at e
  case isFalse => cases e
  rename_i hm
  obtain ⟨l, y3, yk⟩ := q.same_slot hm
  obtain ⟨k, G1, e1, e⟩ := bd_inv e
  refine ⟨_, y3, ?_⟩
  refine hb.im q e1 fun v H1 Hs1 q1 s1 d1 => ?_
  obtain ⟨y, G2, e2, e⟩ := bd_inv e
  unfold ixv at e2
  cases hy : k.d with
  | int n =>
    rw [hy] at d1 e2 e
    cases h : G1[i]? with
    | none => simp only [h] at e2; cases e2
    | some en =>
      cases h0 : en.mu with
      | none => simp only [h, h0] at e2; cases e2
      | some mm =>
       cases mm with
       | o _ _ => simp only [h, h0] at e2; cases e2
       | l ds =>
        simp only [h, h0] at e2
        cases h1 : atI ds n with
        | none => simp only [h1] at e2; cases e2
        | some d =>
          simp only [h1] at e2
          cases e2
          obtain ⟨_, z1, z2, vs, rfl, z3⟩ := yk _ H1 Hs1 en (.l ds) q1 h h0
          obtain ⟨w, w1, w2⟩ := at_ok z3 h1
          refine ⟨l, vs, n, w, rfl, dr_int d1, SqL.of z1, w1, ?_⟩
          obtain ⟨x, G3, e3, e⟩ := bd_inv e
          refine ha.im q1 e3 fun v2 H2 Hs2 q2 s2 d2 => ?_
          have e : (match o d x.d with
            | some r => put i r.d (.int n) G3
            | none => none) = some (fl, G') := e
          cases hr : o d x.d with
          | none => rw [hr] at e; cases e
          | some res =>
            rw [hr] at e
            refine ho H2 Hs2 w v2 d x.d res q2.sub (w2.mono s2) d2 hr _ fun z H3 Hs3 ex rf => ?_
            obtain ⟨Hs4, q4, s4, d4⟩ := (q2.ext ex).fzr (rf.res q2)
            have e : put i res.d (.int n) G3 = some (fl, G') := e
            unfold put at e
            cases hg : G3[i]? with
            | none => simp only [hg] at e; cases e
            | some en2 =>
              cases hg0 : en2.mu with
              | none => simp only [hg, hg0] at e; cases e
              | some mm2 =>
               cases mm2 with
               | o _ _ => simp only [hg, hg0] at e; cases e
               | l ds2 =>
                simp only [hg, hg0] at e
                cases hg1 : ixN ds2.length n with
                | none => simp only [hg1] at e; cases e
                | some j =>
                  simp only [hg1] at e
                  cases e
                  obtain ⟨_, x1, x2, vs2, rfl, x3⟩ := yk _ H3 Hs4 en2 _ q4 hg hg0
                  refine ⟨l, vs2, n, j, rfl, dr_int d1, x1, by rw [x3.len]; exact hg1, ?_⟩
                  exact p σ _ Hs4 (q4.mut hg hg0 y3 (extB_upd q4.sub x2) upd_same x2 ⟨_, rfl, DRs.set d4 j x3⟩) (((s1.trans s2).trans ex.b).trans s4)
  | _ => simp only [hy] at e2; cases e2
end
end Bk
namespace Bk
open PySem L2 PySem.Spec PyProof.Rows
theorem tup_times1 {l : Addr} {its : Array Value} {m : Nat} {dd : Option Addr} {sl : Array (Option Value)} {u : Tok} :
    Meets (Builtin.«tuple.__mul__» ⟨[.ref l, .int 1 u], []⟩) (fun _ R s => s.heap.get? l = some { cls := .type "tuple", dict := dd, data := .seq its m, slots := sl } ∧ R (.ok (.ret (.ref l))) s) :=
  .of_wp fun prog w A R st hyp => by
    obtain ⟨hp, gg, d9, tk, os⟩ := st
    obtain ⟨hl, fin⟩ := hyp
    have fix := AutoSeq1.idx_int
    wp_walk using wpAny_loadPart' hl
    exact ⟨_, rfl, fin⟩
theorem tup_times0 {l : Addr} {its : Array Value} {m : Nat} {dd : Option Addr} {sl : Array (Option Value)} {u : Tok} (he : its.isEmpty = false) :
    Meets (Builtin.«tuple.__mul__» ⟨[.ref l, .int 0 u], []⟩) (fun _ R s => s.heap.get? l = some { cls := .type "tuple", dict := dd, data := .seq its m, slots := sl } ∧
      R (.ok (.ret (.ref s.heap.objs.size))) { s with heap := s.heap.push { cls := .type "tuple", data := .seq #[] } }) :=
  .of_wp fun prog w A R st hyp => by
    obtain ⟨hp, gg, d9, tk, os⟩ := st
    obtain ⟨hl, fin⟩ := hyp
    have fix := AutoSeq1.idx_int
    wp_walk using wpAny_loadPart' hl
    exact ⟨_, rfl, fin⟩
def rRep01 (K : PySem.W.Frag) : R2 := fun x y H Q => ∃ l k xs, x = .ref l ∧ y = .int k ∧ SqT K H l xs ∧ xs ≠ [] ∧ ((k = 1 ∧ Q x H) ∨ (k = 0 ∧ ∀ p, H p = none → Q (.ref p) (upd H p (.tup []))))
section
variable {X : Cx} {K : PySem.W.Frag}
theorem op_rep01' : OpR X (binaryOp .Mult) (rRep01 X.K) := by
  intro pins s σ H x y v u Q I hx hy hyp
  obtain ⟨l, k, xs, rfl, rfl, hT, hne, alt⟩ := hyp
  cases hx
  obtain ⟨t, rfl⟩ := hy
  obtain ⟨its, rel, ⟨⟨c9, dd, dt, sl⟩, hob, hcl, m, hdt⟩, hsz⟩ := I.tuple hT
  simp only at hcl hdt
  subst hcl hdt
  have lens : its.length = xs.length := rel.length.symm
  have emp : its.toArray.isEmpty = false := by
    match its, lens with
    | [], lens => exact absurd (List.length_eq_zero_iff.mp lens.symm) hne
    | a :: b, _ => rfl
  rcases alt with ⟨rfl, q⟩ | ⟨rfl, q⟩
  · exact wpAny_binaryOp_repeat_ref (T := "tuple") (U := "int") (by decide) ⟨_, hob, rfl⟩ (fun s' => typeIs_int s' 1 t) noFill_tuple_mul F.fills_int_mul F.slot_int_rmul repeat_tuple F.slot_int_index.lookup
      (call_meets F.slot_int_rmul (typeIs_int s 1 t) F.entry_int_rmul (F.args_int_rmul_2 _ _) (int_rmul_tuple 1 t l its.toArray m dd sl)
        ⟨hob, rfl, ⟨_, hob, rfl⟩, call_meets F.slot_tuple_mul ⟨_, hob, rfl⟩ F.entry_tuple_mul (F.args_tuple_mul_2 _ _) tup_times1 ⟨hob, ⟨.ref l, H, I, rfl, q⟩⟩⟩)
  · exact wpAny_binaryOp_repeat_ref (T := "tuple") (U := "int") (by decide) ⟨_, hob, rfl⟩ (fun s' => typeIs_int s' 0 t) noFill_tuple_mul F.fills_int_mul F.slot_int_rmul repeat_tuple F.slot_int_index.lookup
      (call_meets F.slot_int_rmul (typeIs_int s 0 t) F.entry_int_rmul (F.args_int_rmul_2 _ _) (int_rmul_tuple 0 t l its.toArray m dd sl)
        ⟨hob, rfl, ⟨_, hob, rfl⟩, call_meets F.slot_tuple_mul ⟨_, hob, rfl⟩ F.entry_tuple_mul (F.args_tuple_mul_2 _ _) (tup_times0 emp) ⟨hob, ⟨.ref s.heap.objs.size, _, I.laid (t' := s.toks) (o := .tup []) (fun b ob q => Heap.get?_push_of_some _ q) (Nat.le_refl _) ⟨Nat.zero_le _, _, .nil, IsTup.new _ _⟩, rfl, q _ (I.hok.fresh (Nat.le_refl _))⟩⟩⟩)
/-- products, those of tuples by 0 and 1 too -/
def opMulC (x y : D) : Option R := match opMulB x y with
  | some r => some r
  | none => match x, y with
    | .tup (d :: ds), .int k => if k = 1 then some (.im (.tup (d :: ds))) else if k = 0 then some (.im (.tup [])) else none
    | _, _ => none
def rMulC (K : PySem.W.Frag) : R2 := fun x y H Q => rMulB K x y H Q ∨ rRep01 K x y H Q
theorem kop_mulC {X : Cx} (hK : X.K = K) : OpR X (binaryOp .Mult) (rMulC K) := hK ▸ ((op_mulA.or op_repT).or op_rep01')
theorem od_mulC : OpD K (rMulC K) opMulC := fun H Hs x y dx dy res s hx hy e Q k => by
  unfold opMulC at e
  split at e
  · rename_i r h
    cases e
    exact .inl (od_mulB H Hs x y dx dy _ s hx hy h Q k)
  · split at e
    case h_2 => cases e
    rename_i d ds n _
    cases hx with
    | tup h1 h2 =>
      rename_i a vs
      cases hy
      have hl := h2.len
      have ne : vs ≠ [] := fun z => by
        rw [z] at hl
        simp at hl
      split at e
      · rename_i hk
        cases e
        exact .inr ⟨a, n, vs, rfl, rfl, same_tup s h1, ne, .inl ⟨hk, k _ H Hs (Ext.refl s) (.tup h1 h2)⟩⟩
      · split at e
        case isFalse => cases e
        rename_i hk
        cases e
        refine .inr ⟨a, n, vs, rfl, rfl, same_tup s h1, ne, .inr ⟨hk, fun p hp => ?_⟩⟩
        have ex : Ext H Hs (upd H p (.tup [])) (upd Hs p (.tup [])) := Ext.new s hp
        exact k _ _ _ ex (.tup (SqT.of upd_same) .nil)
end
end Bk
namespace Bk
open PySem L2 PySem.Spec PyProof.Rows HT
section
variable {prog : Program} {w : World} {A : Around} {E : Value → Shared → Prop} {s : Shared}
theorem rng_pick {α : Type} : ∀ r : List α, (List.range r.length).filterMap (fun k => r[k]?) = r
  | [] => rfl
  | a :: r => by
    rw [List.length_cons, List.range_succ_eq_map, List.filterMap_cons, List.filterMap_map]
    show a :: (List.range r.length).filterMap (fun k => r[k]?) = a :: r
    rw [rng_pick r]
theorem pick_rev9 (l : List Value) : ((List.range l.length).filterMap fun (k : Nat) => l.toArray[(((l.length : Int) - 1) + (k : Int) * (-1)).toNat]?) = l.reverse := by
  have e := rng_pick l.reverse
  rw [List.length_reverse] at e
  conv => rhs; rw [← e]
  have key : ∀ m : List Nat, (∀ k ∈ m, k < l.length) → m.filterMap (fun (k : Nat) => l.toArray[(((l.length : Int) - 1) + (k : Int) * (-1)).toNat]?) = m.filterMap fun k => l.reverse[k]? := fun m hm => by
    induction m with
    | nil => rfl
    | cons k m ih =>
      have hk := hm k List.mem_cons_self
      have e1 : l.toArray[(((l.length : Int) - 1) + (k : Int) * (-1)).toNat]? = l.reverse[k]? := by
        rw [List.getElem?_reverse hk, show (((l.length : Int) - 1) + (k : Int) * (-1)).toNat = l.length - 1 - k by omega]
        simp
      rw [List.filterMap_cons, List.filterMap_cons, e1, ih fun j hj => hm j (List.mem_cons_of_mem _ hj)]
  exact key _ fun k hk => List.mem_range.mp hk
theorem sliceApplied_back {sl : Addr} {vl vu vs : Value} {n : Nat} {Q : Int × Int × Nat → Shared → Prop} (hs : s.heap.IsSliceOf sl vl vu vs) (pl : IsPart vl none) (pu : IsPart vu none) (ps : IsPart vs (some (-1)))
    (h : Q ((n : Int) - 1, -1, n) s) : wpAny (model prog w) A (Builtin.Slice.sliceApplied (.ref sl) (pure (n : Int))) Q E s := by
  obtain ⟨os, hos, hcs, hds⟩ := id hs
  unfold Builtin.Slice.sliceApplied Builtin.Slice.sliceFields
  refine wpAny_bind (wpAny_bind (wpAny_field hos hds (x := vl) rfl (wpAny_bind (wpAny_field hos hds (x := vu) rfl (wpAny_bind (wpAny_field hos hds (x := vs) rfl (wpAny_pure ?_)))))))
  refine wpAny_bind (slicePart_ ps ?_)
  show wpAny _ _ (if ((-1 : Int) == 0) = true then _ else _) _ _ s
  rw [if_neg (by decide)]
  refine wpAny_bind (slicePart_ pl (wpAny_bind (slicePart_ pu (wpAny_bind (wpAny_pure ?_)))))
  have e1 : Builtin.Slice.sliceAdjust none none (-1) (n : Int) = ((n : Int) - 1, -1) := rfl
  have e2 : Builtin.Slice.slicePlaces ((n : Int) - 1) (-1) (-1) = n := by
    unfold Builtin.Slice.slicePlaces
    rw [if_neg (by decide)]
    rw [show (- -1 : Int) = 1 from rfl, Int.ediv_one]
    split
    · omega
    · omega
  show wpAny _ _ (match Builtin.Slice.sliceAdjust none none (-1) (n : Int) with | (lo, hi) => pure (lo, (-1 : Int), Builtin.Slice.slicePlaces lo hi (-1))) _ _ s
  rw [e1]
  show wpAny _ _ (pure ((n : Int) - 1, (-1 : Int), Builtin.Slice.slicePlaces ((n : Int) - 1) (-1) (-1))) _ _ s
  rw [e2]
  exact wpAny_pure h
theorem getItem_tuple_back {t sl : Addr} {its : List Value} {vl vu vs : Value} {Q : Value → Shared → Prop} (ht : IsTup s.heap t its.toArray) (hs : s.heap.IsSliceOf sl vl vu vs) (pl : IsPart vl none) (pu : IsPart vu none) (ps : IsPart vs (some (-1)))
    (h : Q (.ref s.heap.objs.size) { s with heap := s.heap.push { cls := .type "tuple", data := .seq its.reverse.toArray } })
    (hz : its.length ≤ sizeLine) : wpAny (model prog w) A (getItem (.ref t) (.ref sl)) Q E s := by
  have fits : sizeOk (.seq its.reverse.toArray) := by
    show its.reverse.toArray.size ≤ sizeLine
    rw [List.size_toArray, List.length_reverse]
    exact hz
  obtain ⟨os, hos, hcs, hds⟩ := id hs
  have hTs : s.TypeIs (.ref sl) "slice" := ⟨os, hos, hcs⟩
  unfold getItem
  try with_reducible refine wpAny_holding ?_
  first | refine wpAny_bind (wpAny_pure ?_) | skip
  refine wpAny_bind (wpAny_sequenceKey ht.typeIs (by decide) ?_)
  refine wpAny_bind (wpAny_callSpecial?_slot (name := Str.ofString "__getitem__") ht.typeIs PyProof.Rows.slot_tuple_getitem (wpAny_call_entry PyProof.Rows.slot_tuple_getitem ht.typeIs entry_tuple_getitem ?_ (args_tuple_getitem _ _)))
  show wpAny _ _ (Builtin.Tuple.tupleItemsOf (.ref t) >>= _) _ _ s
  refine wpAny_bind (tupleItemsOf_ ht ?_)
  refine wpAny_bind (wpAny_typeOf hTs ?_)
  rw [if_pos (by decide)]
  refine wpAny_bind (sliceApplied_back (n := its.toArray.size) hs pl pu ps ?_)
  show wpAny _ _ (if (((its.toArray.size : Int) - 1) == 0 && (-1 : Int) == 1 && its.toArray.size == its.toArray.size) = true then _ else _) _ _ s
  rw [if_neg (by rw [show ((-1 : Int) == 1) = false from rfl, Bool.and_false, Bool.false_and]; decide)]
  have e : ((List.range its.toArray.size).filterMap fun (k : Nat) => its.toArray[(((its.toArray.size : Nat) : Int) - 1 + (k : Int) * (-1)).toNat]?) = its.reverse := by
    rw [List.size_toArray]
    exact pick_rev9 its
  rw [e]
  first
    | exact wpAny_bind (m := Builtin.Tuple.tupleExact _) (wpAny_newObj_type (wpAny_pure ⟨_, rfl, wpAny_pure h⟩) fits)
    | exact wpAny_bind (m := Builtin.Tuple.tupleExact _) (wpAny_newObj_type (wpAny_bind (wpAny_pure (wpAny_pure ⟨_, rfl, wpAny_pure h⟩))) fits)
    | exact wpAny_bind (wpAny_bind (m := Builtin.Tuple.tupleExact _) (wpAny_newObj_type (wpAny_pure (wpAny_pure ⟨_, rfl, wpAny_pure h⟩)) fits))
    | exact wpAny_bind (wpAny_bind (m := Builtin.Tuple.tupleExact _) (wpAny_newObj_type (wpAny_pure ⟨_, rfl, wpAny_pure h⟩) fits))
end
section
variable {X : Cx} {K : PySem.W.Frag}
/-- xs[::k], k reckoned to be -1: a list or a tuple -/
def tRevA (K : PySem.W.Frag) (te tk : TE) : TE := fun σ H Q => te σ H fun x H1 => tk σ H1 fun y H2 => y = .int (-1) ∧ (some (-1 : Int) = some (-1) ∧ ∃ a xs, x = .ref a ∧ ((SqL K H2 a xs ∧ ∀ p, H2 p = none → Q (.ref p) (upd H2 p (.lst xs.reverse))) ∨ (SqT K H2 a xs ∧ ∀ p, H2 p = none → Q (.ref p) (upd H2 p (.tup xs.reverse)))))
theorem pe_revA {e st : Expr} {te tk : TE} {p3 pos : Pos} (he : PE X e te) (hk : PE X st tk) :
    PE X (.Subscript e (.Slice none none (some st) p3) pos) (tRevA X.K te tk) := by
  refine ⟨fun pins s σ H Q I h => ?_⟩
  refine Subscript_ (thn (he.run pins s σ H _ I h) fun v s1 ⟨x, H1, I1, r1, q1⟩ => ?_)
  refine wpAny_Slice (thn (po_none.run pins s1 σ H1 (fun o H2 => o = none ∧ H2 = H1) I1 ⟨rfl, rfl⟩) fun vl s2 ⟨l, H2, I2, pl, el, e2⟩ => ?_)
  subst el e2
  refine thn (po_none.run pins s2 σ H2 (fun o H3 => o = none ∧ H3 = H2) I2 ⟨rfl, rfl⟩) fun vu s3 ⟨u, H3, I3, pu, eu, e3⟩ => ?_
  subst eu e3
  have hst : PO X (some st) (fun σ H Q => tk σ H fun y H2 => y = .int (-1) ∧ Q (some (-1)) H2) := by
    refine ⟨fun pins s σ H Q I hw => ?_⟩
    rw [evalPart_some]
    refine thn (hk.run pins s σ H _ I hw) fun u s1 ⟨y, H1, I1, r1, q1⟩ => ?_
    obtain ⟨rfl, q⟩ := q1
    obtain ⟨t, rfl⟩ := r1
    exact ⟨some (-1), H1, I1, .int (-1) t, q⟩
  refine thn (hst.run pins s3 σ H3 (fun o H4 => o = some (-1) ∧ ∃ a xs, x = .ref a ∧ ((SqL X.K H4 a xs ∧ ∀ p, H4 p = none → Q (.ref p) (upd H4 p (.lst xs.reverse))) ∨ (SqT X.K H4 a xs ∧ ∀ p, H4 p = none → Q (.ref p) (upd H4 p (.tup xs.reverse))))) I3 q1) fun vs s4 ⟨o, H4, I4, ps, eo, a, xs, ex, alt⟩ => ?_
  subst eo ex
  cases r1
  have I5 : Inv X pins σ H4 { s4 with heap := s4.heap.push { cls := .type "slice", data := .fields #[vl, vu, vs] } } := I4.kept (t' := s4.toks) fun b ob q => Heap.get?_push_of_some _ q
  show wpAny (model X.prog X.w) X.A (subscriptTail e (.Slice none none (some st) p3) (.ref a) (.ref s4.heap.objs.size)) (EP X pins σ Q) X.xe { s4 with heap := s4.heap.push { cls := .type "slice", data := .fields #[vl, vu, vs] } }
  rcases alt with ⟨hx, q⟩ | ⟨hx, q⟩
  · obtain ⟨its, r, ht, hz⟩ := I5.list hx
    have hlen := r.length
    refine tail_any (ops := [.ref a, .ref s4.heap.objs.size]) ht.isList.typeIs (PySem.slot_list_getitem.lookup) ?_ (by with_unfolding_all rfl)
    refine wpAny_getItem_list_slice ht.isList (Heap.IsSliceOf.new _ vl vu vs) pl pu ps (by decide) ?_ (by rw [List.size_toArray]; omega)
    rw [PySem.W.krv_pick]
    refine ⟨.ref _, _, I5.laid (t' := s4.toks) (o := .lst xs.reverse) (fun b ob q => Heap.get?_push_of_some _ q) (Nat.le_refl _) ?_, rfl, q _ (I5.hok.fresh (Nat.le_refl _))⟩
    exact ⟨by rw [List.length_reverse]; exact hz, _, 0, r.reverse, Heap.get?_push_size _ rfl⟩
  · obtain ⟨its, r, ht, hz⟩ := I5.tuple hx
    have hlen := r.length
    refine tail_any (ops := [.ref a, .ref s4.heap.objs.size]) ht.typeIs (PyProof.Rows.slot_tuple_getitem.lookup) ?_ (by with_unfolding_all rfl)
    refine getItem_tuple_back ht (Heap.IsSliceOf.new _ vl vu vs) pl pu ps ?_ (by omega)
    refine ⟨.ref _, _, I5.laid (t' := s4.toks) (o := .tup xs.reverse) (fun b ob q => Heap.get?_push_of_some _ q) (Nat.le_refl _) ?_, rfl, q _ (I5.hok.fresh (Nat.le_refl _))⟩
    exact ⟨by rw [List.length_reverse]; exact hz, _, r.reverse, IsTup.new _ _⟩
theorem kpe_revA (hK : X.K = K) {e st : Expr} {te tk : TE} {p3 pos : Pos} (he : PE X e te) (hk : PE X st tk) : PE X (.Subscript e (.Slice none none (some st) p3) pos) (tRevA K te tk) := hK ▸ pe_revA he hk
def xrevA (a b : M R) : M R := fun G => bd (a G) fun x G1 => bd (b G1) fun y G2 => match x.d, y.d with
  | .lst ds, .int k => if k = -1 then some (.ol ds.reverse, G2) else none
  | .tup ds, .int k => if k = -1 then some (.im (.tup ds.reverse), G2) else none
  | _, _ => none
theorem gk_revA {te tk : TE} {a b : M R} (ha : GOk K te a) (hb : GOk K tk b) : GOk K (tRevA K te tk) (xrevA a b) := fun Fz ba G σ H Hs res G' q e Q k => by
  obtain ⟨x, G1, e1, e⟩ := bd_inv e
  obtain ⟨y, G2, e2, e⟩ := bd_inv e
  refine ha.im q e1 fun v1 H1 Hs1 q1 s1 d1 => ?_
  refine hb.im q1 e2 fun v2 H2 Hs2 q2 s2 d2 => ?_
  split at e
  · rename_i ds n h1 h2
    split at e
    case isFalse => cases e
    rename_i hn
    cases e
    rw [h2] at d2
    rw [h1] at d1
    obtain ⟨a1, x1, rfl, l1, r1⟩ := asL_ok (d1.mono s2) (rfl : asL (.lst ds) = some ds)
    refine ⟨by rw [dr_int d2, hn], rfl, a1, x1, rfl, .inl ⟨same_lst q2.sub l1, fun p hp => ?_⟩⟩
    have ex : Ext H2 Hs2 (upd H2 p (.lst x1.reverse)) Hs2 := Ext.hid q2.sub hp
    have rf : ResF K H2 (upd H2 p (.lst x1.reverse)) Hs2 (.ref p) (.ol ds.reverse) := ⟨p, _, rfl, hp, upd_same, none_sub q2.sub hp, _, rfl, r1.rev⟩
    exact k _ _ _ (q2.ext ex) ((s1.trans s2).trans ex.b) (rf.res q2)
  · rename_i ds n h1 h2
    split at e
    case isFalse => cases e
    rename_i hn
    cases e
    rw [h2] at d2
    rw [h1] at d1
    cases d1.mono s2 with
    | tup l1 r1 =>
      rename_i a1 x1
      refine ⟨by rw [dr_int d2, hn], rfl, a1, x1, rfl, .inr ⟨same_tup q2.sub l1, fun p hp => ?_⟩⟩
      have ex : Ext H2 Hs2 (upd H2 p (.tup x1.reverse)) (upd Hs2 p (.tup x1.reverse)) := Ext.new q2.sub hp
      have rf : ResF K H2 (upd H2 p (.tup x1.reverse)) (upd Hs2 p (.tup x1.reverse)) (.ref p) (.im (.tup ds.reverse)) := .tup (SqT.of upd_same) (r1.rev.mono ex.b)
      exact k _ _ _ (q2.ext ex) ((s1.trans s2).trans ex.b) (rf.res q2)
  · cases e
end
end Bk
namespace Bk
open PySem L2 PySem.Builtin PySem.Spec PyProof.Rows
/-- what the loop of list.extend has laid: i pairs, the list at S holds them -/
structure ZpLaid (N S : Nat) (fp : List Addr) (h : Heap) (xs ys : Array Value) (i : Nat) (acc : Array Value) : Prop where
  sz : acc.size = i
  at_ : ∀ j, j < i → ∃ (T : Addr) (x y : Value), acc[j]? = some (.ref T) ∧ xs[j]? = some x ∧ ys[j]? = some y ∧ N ≤ T ∧ (T ≠ S ∧ T ∉ fp) ∧ T < h.objs.size ∧ IsPair h T x y
  ne : ∀ (j j' : Nat) (T : Addr), acc[j]? = some (.ref T) → acc[j']? = some (.ref T) → j = j'
theorem ZpLaid.push {N S : Nat} {fp : List Addr} {h h' : Heap} {xs ys : Array Value} {i : Nat} {acc : Array Value} {T : Addr} {x y : Value} (L : ZpLaid N S fp h xs ys i acc) (hx : xs[i]? = some x) (hy : ys[i]? = some y) (n1 : N ≤ T) (n2 : T ≠ S ∧ T ∉ fp) (hT : h.objs.size ≤ T) (lt : T < h'.objs.size) (tp : IsPair h' T x y)
    (k : ∀ a o, a ≠ S → a ∉ fp → h.get? a = some o → h'.get? a = some o) : ZpLaid N S fp h' xs ys (i + 1) (acc.push (.ref T)) := by
  have old : ∀ (j : Nat) (U : Addr), acc[j]? = some (.ref U) → U ≠ T := fun j U q z => by
    have jl : j < i := by
      have := (Array.getElem?_eq_some_iff.mp q).1
      rw [L.sz] at this
      exact this
    obtain ⟨U', _, _, q', _, _, _, _, lt', _⟩ := L.at_ j jl
    rw [q] at q'
    cases q'
    rw [z] at lt'
    exact absurd (Nat.lt_of_lt_of_le lt' hT) (Nat.lt_irrefl _)
  have get : ∀ (j : Nat) (v : Value), (acc.push (.ref T))[j]? = some v → (j = i ∧ v = .ref T) ∨ (j < i ∧ acc[j]? = some v) := fun j v q => by
    rw [Array.getElem?_push] at q
    split at q
    · rename_i z
      rw [L.sz] at z
      cases q
      exact .inl ⟨z, rfl⟩
    · refine .inr ⟨?_, q⟩
      have := (Array.getElem?_eq_some_iff.mp q).1
      rw [L.sz] at this
      exact this
  refine ⟨by rw [Array.size_push, L.sz], fun j hj => ?_, fun j j' U q q' => ?_⟩
  · by_cases c : j = i
    · subst c
      exact ⟨T, x, y, by rw [Array.getElem?_push, if_pos L.sz.symm], hx, hy, n1, n2, lt, tp⟩
    · obtain ⟨U, x', y', e1, e2, e2', e3, e4, e5, e6⟩ := L.at_ j (by omega)
      refine ⟨U, x', y', ?_, e2, e2', e3, e4, Heap.lt_size (k U _ e4.1 e4.2 e6), k U _ e4.1 e4.2 e6⟩
      rw [Array.getElem?_push, if_neg (by rw [L.sz]; exact c)]
      exact e1
  · rcases get j _ q with ⟨rfl, z⟩ | ⟨l1, z⟩ <;> rcases get j' _ q' with ⟨rfl, z'⟩ | ⟨l2, z'⟩
    · rfl
    · exact absurd (Value.ref.inj z) (old j' U z')
    · exact absurd (Value.ref.inj z') (old j U z)
    · exact L.ne j j' U z z'
end Bk
namespace Bk
open PySem L2 PyProof.Rows
/-- a property of a class of the text -/
structure FnP (K : PySem.W.Frag) (C : Addr) (x qual : PySem.Str) (st : Stmt) where
  p : Addr
  f : Addr
  fd : FuncData
  F : Fun K x qual st f fd
  m : PropOf K C x p f
section
variable {X : Cx} {CX : CXT} {k : Nat} {C g : Addr} {fd : FuncData} {ps : List PySem.Str} {sp : Sp} {E : XK}
/-- len(o) by an own __len__ -/
def rLenO (C : Addr) (sp : Sp) (E : XK) : List V → Hp → VK → Prop := fun xs H Q => ∃ x, xs = [x] ∧ IsIn C H x ∧ sp [x] H (fun v H' => ∃ n : Int, v = .int n ∧ (0 ≤ n ∧ n < 2 ^ 63) ∧ Q (.int n) H') E
theorem cr_lenO (hs : PySem.W.findIn X.K (.ref C) "__len__" = some (some (.ref g))) (hf : PySem.W.isFn X.K (.ref g) = true)
    (F : FnOk X.prog X.w X.K X.mg X.base CX k g fd ps sp) (hr : Room (k + 1) X.A) (hb : Binds X.K fd ps []) (hx : Passes CX X E) : CallR X (.builtin "len") (rLenO C sp E) := by
  intro pins s σ H xs us Q I r h
  obtain ⟨x, rfl, ⟨a, dx, fs, rfl, ha⟩, q⟩ := h
  obtain ⟨u, rfl, ru⟩ := r.one
  cases (show u = Value.ref a from ru)
  obtain ⟨od, J⟩ := inst_at I ha
  obtain ⟨m, hF⟩ := I.fr
  refine PySem.W.len_K hF I.ok.mod.kin J hs hf ?_
  refine wpAny_mono (run_in (us := [.ref a]) (vs := [.ref a]) F hr.in1 I.env0.in1 hb hx I (.cons rfl .nil) q) (fun w s' z => ?_) fun _ _ x => x
  obtain ⟨z', H', I', rz, n, rfl, hn, qz⟩ := z
  obtain ⟨t, e⟩ := (show ∃ t, w = Value.int n t from rz)
  cases e
  exact ⟨hn, .int n, H', I'.tok _, ⟨_, rfl⟩, qz⟩
end
section
variable {K : PySem.W.Frag} {mg : PySem.Str → Option Value}
theorem methB_inv {c i : Nat} {m : Mob → List D → Option (R × Mob)} {a : M (List D)} {G G' : Gam} {res : R} (e : xmethB i c m [] a G = some (res, G')) : isIns c G i = true ∧ xcallB m i a G = some (res, G') := by
  unfold xmethB at e
  split at e
  case isFalse => cases e
  rename_i h
  refine ⟨h, ?_⟩
  unfold xcallB
  rw [if_pos (isIns_mu h)]
  obtain ⟨xs, G1, e1, e⟩ := bd_inv e
  split at e
  case isFalse => cases e
  rw [e1]
  rw [List.append_nil] at e
  exact e
theorem ins_of {c i : Nat} {Fz : Hp} {ba : Nat → Addr} {G : Gam} {σ : L2.St} {H Hs : Hp} (T : ClT K mg c) (q : Rel K Fz ba G σ H Hs) (h : isIns c G i = true) :
    ∃ l dx fs, σ[i]? = some (some (.ref l)) ∧ H l = some (.ins T.C dx fs) ∧ ∀ nm, nm ∉ cAttrs c → fs.lookup nm = none := by
  obtain ⟨e0, ds0, y1, y2⟩ := isIns_ok h
  obtain ⟨l, o, y3, y4, _, _, C, dx, fs, hC, rfl, hnn, hs⟩ := q.mu i e0 _ y1 y2
  cases hC.eq T.at_
  refine ⟨l, dx, fs, y3, y4, fun nm hn => fs_none fun z => hn ?_⟩
  rw [hnn] at z
  exact List.mem_of_mem_take z
/-- x.m(..), x owned -/
theorem gk_methB {c i : Nat} {nm : PySem.Str} {m : Mob → List D → Option (R × Mob)} {E : XK} (T : ClT K mg c) (hn : nm ∉ cAttrs c) {tas : TA} {a : M (List D)} (ha : AOk K tas a) :
    GOk K (tMeth T.C nm (spB K m) [] E (tVar i) tas) (xmethB i c m [] a) := fun Fz ba G σ H Hs res G' q e Q k => by
  obtain ⟨h, e'⟩ := methB_inv e
  obtain ⟨l, dx, fs, y3, y4, y5⟩ := ins_of T q h
  obtain ⟨v, hv, z⟩ := gk_callB (E := E) ha Fz ba G σ H Hs res G' q e' Q k
  rw [y3] at hv
  cases hv
  exact ⟨_, y3, _, _, _, rfl, y4, y5 nm hn, z⟩
/-- x.f, a property, x owned -/
theorem gk_propB {c i : Nat} {m : Mob → List D → Option (R × Mob)} {E : XK} (T : ClT K mg c) : GOk K (tProp T.C (spB K m) [] E (tVar i)) (xmethB i c m [] xnil) := fun Fz ba G σ H Hs res G' q e Q k => by
  obtain ⟨h, e'⟩ := methB_inv e
  obtain ⟨l, dx, fs, y3, y4, _⟩ := ins_of T q h
  obtain ⟨v, hv, z⟩ := gk_callB (E := E) (ta := tNil) ak_nil Fz ba G σ H Hs res G' q e' Q k
  rw [y3] at hv
  cases hv
  exact ⟨_, y3, _, _, _, rfl, y4, z⟩
/-- len(x), x owned -/
def xlenB (i c : Nat) (m : Mob → List D → Option (R × Mob)) : M R := fun G => match xmethB i c m [] xnil G with
  | some (.im (.int n), G') => if 0 ≤ n ∧ n < 2 ^ 63 then some (.im (.int n), G') else none
  | _ => none
theorem gk_lenB {c i : Nat} {m : Mob → List D → Option (R × Mob)} {E : XK} (T : ClT K mg c) : GOk K (tCB (rLenO T.C (spB K m) E) (tCons (tVar i) tNil)) (xlenB i c m) := fun Fz ba G σ H Hs res G' q e Q k => by
  unfold xlenB at e
  split at e
  case h_2 => cases e
  rename_i n G1 e0
  split at e
  case isFalse => cases e
  rename_i hn
  cases e
  obtain ⟨h, e'⟩ := methB_inv e0
  obtain ⟨l, dx, fs, y3, y4, _⟩ := ins_of T q h
  obtain ⟨v, hv, z⟩ := gk_callB (E := E) (ta := tNil) ak_nil Fz ba G σ H Hs _ G' q e' (fun v H' => ∃ n : Int, v = .int n ∧ (0 ≤ n ∧ n < 2 ^ 63) ∧ Q (.int n) H') fun v H' Hs' q' s' rf => ⟨n, by cases rf; rfl, hn, k (.int n) H' Hs' q' s' (.int n)⟩
  rw [y3] at hv
  cases hv
  exact ⟨_, y3, _, rfl, ⟨_, _, _, rfl, y4⟩, z⟩
end
end Bk
namespace Bk
open PySem L2
section
variable {K : PySem.W.Frag}
inductive ResFL (K : PySem.W.Frag) (H H' Hs' : Hp) : List V → List R → Prop
  | nil : ResFL K H H' Hs' [] []
  | cons {v : V} {r : R} {vs : List V} {rs : List R} : ResF K H H' Hs' v r → (∀ p, OwnAt v r p → ∀ x ∈ vs.zip rs, ¬ OwnAt x.1 x.2 p) → ResFL K H H' Hs' vs rs → ResFL K H H' Hs' (v :: vs) (r :: rs)
theorem ResL.len {Fz : Hp} {G : Gam} {σ : L2.St} {H Hs : Hp} {vs : List V} {rs : List R} (h : ResL K Fz G σ H Hs vs rs) : vs.length = rs.length := by
  induction h with
  | nil => rfl
  | cons _ _ _ ih => rw [List.length_cons, List.length_cons, ih]
theorem ResFL.len {H H' Hs' : Hp} {vs : List V} {rs : List R} (h : ResFL K H H' Hs' vs rs) : vs.length = rs.length := by
  induction h with
  | nil => rfl
  | cons _ _ _ ih => rw [List.length_cons, List.length_cons, ih]
theorem Res.push {Fz : Hp} {G : Gam} {σ : L2.St} {H Hs H' : Hp} (s : Same H H') {v : V} {r : R} (h : Res K Fz G σ H Hs v r) : Res K Fz G σ H' Hs v r := by
  cases r with
  | im d => exact h
  | ow m =>
    obtain ⟨p, o, e, h1, h2⟩ := h
    exact ⟨p, o, e, s p o h1, h2⟩
theorem ResL.push {Fz : Hp} {G : Gam} {σ : L2.St} {H Hs H' : Hp} (s : Same H H') {vs : List V} {rs : List R} (h : ResL K Fz G σ H Hs vs rs) : ResL K Fz G σ H' Hs vs rs := by
  induction h with
  | nil => exact .nil
  | cons a b _ ih => exact .cons (a.push s) b ih
end
end Bk
namespace Bk
open PySem L2 PySem.Builtin PySem.Spec PyProof.Rows
/-- what the loop of list.extend has laid: i tuples, the list at S holds them -/
structure EnLaid (N S e it : Nat) (h : Heap) (its : Array Value) (i : Nat) (acc : Array Value) : Prop where
  sz : acc.size = i
  at_ : ∀ j, j < i → ∃ (T : Addr) (tk : Nat) (x : Value), acc[j]? = some (.ref T) ∧ its[j]? = some x ∧ N ≤ T ∧ (T ≠ S ∧ T ≠ e ∧ T ≠ it) ∧ T < h.objs.size ∧ h.get? T = some { cls := .type "tuple", data := .seq #[.int (j : Int) tk, x] }
  ne : ∀ (j j' : Nat) (T : Addr), acc[j]? = some (.ref T) → acc[j']? = some (.ref T) → j = j'
theorem EnLaid.push {N S e it : Nat} {h h' : Heap} {its : Array Value} {i tk : Nat} {acc : Array Value} {T : Addr} {x : Value} (L : EnLaid N S e it h its i acc) (hx : its[i]? = some x) (n1 : N ≤ T) (n2 : T ≠ S ∧ T ≠ e ∧ T ≠ it) (hT : h.objs.size ≤ T) (lt : T < h'.objs.size) (tp : h'.get? T = some { cls := .type "tuple", data := .seq #[.int (i : Int) tk, x] })
    (k : ∀ a o, a ≠ S → a ≠ e → a ≠ it → h.get? a = some o → h'.get? a = some o) : EnLaid N S e it h' its (i + 1) (acc.push (.ref T)) := by
  have old : ∀ (j : Nat) (U : Addr), acc[j]? = some (.ref U) → U ≠ T := fun j U q z => by
    have jl : j < i := by
      have := (Array.getElem?_eq_some_iff.mp q).1
      rw [L.sz] at this
      exact this
    obtain ⟨U', _, _, q', _, _, _, lt', _⟩ := L.at_ j jl
    rw [q] at q'
    cases q'
    rw [z] at lt'
    exact absurd (Nat.lt_of_lt_of_le lt' hT) (Nat.lt_irrefl _)
  have get : ∀ (j : Nat) (v : Value), (acc.push (.ref T))[j]? = some v → (j = i ∧ v = .ref T) ∨ (j < i ∧ acc[j]? = some v) := fun j v q => by
    rw [Array.getElem?_push] at q
    split at q
    · rename_i z
      rw [L.sz] at z
      cases q
      exact .inl ⟨z, rfl⟩
    · refine .inr ⟨?_, q⟩
      have := (Array.getElem?_eq_some_iff.mp q).1
      rw [L.sz] at this
      exact this
  refine ⟨by rw [Array.size_push, L.sz], fun j hj => ?_, fun j j' U q q' => ?_⟩
  · by_cases c : j = i
    · subst c
      exact ⟨T, tk, x, by rw [Array.getElem?_push, if_pos L.sz.symm], hx, n1, n2, lt, tp⟩
    · obtain ⟨U, tk', y, e1, e2, e3, e4, e5, e6⟩ := L.at_ j (by omega)
      refine ⟨U, tk', y, ?_, e2, e3, e4, Heap.lt_size (k U _ e4.1 e4.2.1 e4.2.2 e6), k U _ e4.1 e4.2.1 e4.2.2 e6⟩
      rw [Array.getElem?_push, if_neg (by rw [L.sz]; exact c)]
      exact e1
  · rcases get j _ q with ⟨rfl, z⟩ | ⟨l1, z⟩ <;> rcases get j' _ q' with ⟨rfl, z'⟩ | ⟨l2, z'⟩
    · rfl
    · exact absurd (Value.ref.inj z) (old j' U z')
    · exact absurd (Value.ref.inj z') (old j U z)
    · exact L.ne j j' U z z'
end Bk
namespace Bk
open PySem L2
def dat : List PySem.Str → List D → PySem.Str → Option D
  | k :: ks, d :: ds, x => if k = x then some d else dat ks ds x
  | _, _, _ => none
abbrev kvz (ks : List PySem.Str) (vs : List V) : List (Key × V) := (ks.map Sum.inr).zip vs
section
variable {K : PySem.W.Frag}
theorem dat_some {H : Hp} {x : PySem.Str} {d : D} : ∀ {ks : List PySem.Str} {vs : List V} {ds : List D}, DRs K H vs ds → ks.length = vs.length → dat ks ds x = some d → ∃ v, valV (kvz ks vs) (.inr x) = some v ∧ DR K H v d
  | [], _, _, _, _, e => by simp [dat] at e
  | k :: ks, _, _, .nil, _, e => by simp [dat] at e
  | k :: ks, v :: vs, _, .cons h hs, hl, e => by
    unfold dat at e
    by_cases z : k = x
    · rw [if_pos z] at e
      cases e
      subst z
      exact ⟨v, valV_pos rfl, h⟩
    · rw [if_neg z] at e
      obtain ⟨u, h1, h2⟩ := dat_some (ks := ks) hs (Nat.succ.inj hl) e
      exact ⟨u, (valV_neg (p := (Sum.inr k, v)) (fun y => z (Sum.inr.inj y))).trans h1, h2⟩
theorem dat_none {H : Hp} {x : PySem.Str} : ∀ {ks : List PySem.Str} {vs : List V} {ds : List D}, DRs K H vs ds → ks.length = vs.length → dat ks ds x = none → valV (kvz ks vs) (.inr x) = none
  | [], _, _, _, _, e => rfl
  | k :: ks, [], _, _, hl, e => by cases hl
  | k :: ks, v :: vs, _, .cons h hs, hl, e => by
    unfold dat at e
    by_cases z : k = x
    · rw [if_pos z] at e
      cases e
    · rw [if_neg z] at e
      exact (valV_neg (p := (Sum.inr k, v)) (fun y => z (Sum.inr.inj y))).trans (dat_none (ks := ks) hs (Nat.succ.inj hl) e)
theorem dr_str {H : Hp} {v : V} {x : PySem.Str} (h : DR K H v (.str x)) : v = .str x := by cases h; rfl
theorem dr_dic {H : Hp} {v : V} {ks : List PySem.Str} {ds : List D} (h : DR K H v (.dic ks ds)) : ∃ a vs, v = .ref a ∧ Rd H a (.dK (kvz ks vs)) ∧ DRs K H vs ds ∧ ks.length = vs.length := by
  cases h with
  | dic a b c => exact ⟨_, _, rfl, a, b, c⟩
/-- d[k] -/
def xdget (a b : M R) : M R := fun G => bd (a G) fun x G1 => bd (b G1) fun y G2 => match x.d, y.d with
  | .dic ks ds, .str k => match dat ks ds k with
    | some d => some (.im d, G2)
    | none => none
  | _, _ => none
theorem gk_dget {ta tb : TE} {a b : M R} (ha : GOk K ta a) (hb : GOk K tb b) : GOk K (tDGet ta tb) (xdget a b) := fun Fz ba G σ H Hs res G' q e Q k => by
  obtain ⟨x, G1, e1, e⟩ := bd_inv e
  obtain ⟨y, G2, e2, e⟩ := bd_inv e
  split at e
  case h_2 => cases e
  rename_i ks ds z hx hy
  split at e
  case h_2 => cases e
  rename_i d hd
  cases e
  refine ha.im q e1 fun v1 H1 Hs1 q1 s1 d1 => ?_
  refine hb.im q1 e2 fun v2 H2 Hs2 q2 s2 d2 => ?_
  rw [hx] at d1
  rw [hy] at d2
  cases dr_str d2
  obtain ⟨a, vs, rfl, h1, h2, h3⟩ := dr_dic d1
  obtain ⟨v, g1, g2⟩ := dat_some h2 h3 hd
  refine ⟨a, v, rfl, .inl ⟨_, .inr z, same_rd q2.sub (same_rd s2 h1), rfl, g1.symm⟩, k v H2 Hs2 q2 (s1.trans s2) (g2.mono s2)⟩
/-- k in d -/
def opDIn (neg : Bool) (x y : D) : Option R := match x, y with
  | .str k, .dic ks ds => some (.im (.bl ((dat ks ds k).isSome != neg)))
  | _, _ => none
def rDIn (neg : Bool) : R2 := fun y x H Q => ∃ a o, x = .ref a ∧ DGet H a y o ∧ Q (.bl (o.isSome != neg)) H
theorem op_dIn {X : Cx} (hu : X.A.units + 70 < cLine) : OpR X (compareOp .In) (rDIn false) := by
  intro pins s σ H y x u v Q I ry rx h
  obtain ⟨a, o, rfl, g, q⟩ := h
  cases (show v = Value.ref a from rx)
  exact d_in (by omega) I g ry fun s3 I3 => ⟨.bl o.isSome, H, I3, rfl, by simpa using q⟩
theorem op_dNotIn {X : Cx} (hu : X.A.units + 70 < cLine) : OpR X (compareOp .NotIn) (rDIn true) := by
  intro pins s σ H y x u v Q I ry rx h
  obtain ⟨a, o, rfl, g, q⟩ := h
  cases (show v = Value.ref a from rx)
  exact d_notIn (by omega) I g ry fun s3 I3 => ⟨.bl (!o.isSome), H, I3, rfl, by simpa using q⟩
theorem od_dIn {neg : Bool} : OpD K (rDIn neg) (opDIn neg) := fun H Hs x y dx dy res s hx hy e Q k => by
  unfold opDIn at e
  split at e
  case h_2 => cases e
  rename_i z ks ds
  cases e
  cases dr_str hx
  obtain ⟨a, vs, rfl, h1, h2, h3⟩ := dr_dic hy
  refine ⟨a, valV (kvz ks vs) (.inr z), rfl, .inl ⟨_, .inr z, same_rd s h1, rfl, rfl⟩, ?_⟩
  have e : (valV (kvz ks vs) (.inr z)).isSome = (dat ks ds z).isSome := by
    cases hd : dat ks ds z with
    | none => rw [dat_none h2 h3 hd]; rfl
    | some d =>
      obtain ⟨v, g1, _⟩ := dat_some h2 h3 hd
      rw [g1]
      rfl
  rw [e]
  exact k _ H Hs (Ext.refl s) (.bl _)
inductive PkOk (K : PySem.W.Frag) : List (TE × TE) → List PySem.Str → M (List D) → Prop where
  | nil : PkOk K [] [] xnil
  | cons {k : PySem.Str} {tv : TE} {a : M R} {trs : List (TE × TE)} {ks : List PySem.Str} {r : M (List D)} : GOk K tv a → PkOk K trs ks r → PkOk K ((tC (.str k), tv) :: trs) (k :: ks) (xcons a r)
theorem PkOk.run {trs : List (TE × TE)} {ks : List PySem.Str} {f : M (List D)} (h : PkOk K trs ks f) : ∀ {Fz ba G σ H Hs ds G'}, Rel K Fz ba G σ H Hs → f G = some (ds, G') →
    ∀ Q : List (V × V) → Hp → Prop, (∀ vs H' Hs', Rel K Fz ba G' σ H' Hs' → Same Hs Hs' → DRs K Hs' vs ds → vs.length = ks.length → Q ((ks.map V.str).zip vs) H') → tPairs trs σ H Q := by
  induction h with
  | nil =>
    intro Fz ba G σ H Hs ds G' q e Q k
    cases e
    exact k [] H Hs q (Same.refl _) .nil rfl
  | cons ha _ ih =>
    intro Fz ba G σ H Hs ds G' q e Q k
    obtain ⟨x, G1, e1, e⟩ := bd_inv e
    obtain ⟨xs, G2, e2, e⟩ := bd_inv e
    cases e
    refine ha.im q e1 fun v1 H1 Hs1 q1 s1 d1 => ?_
    exact ih q1 e2 _ fun vs H2 Hs2 q2 s2 d2 l2 => k (v1 :: vs) H2 Hs2 q2 (s1.trans s2) (.cons (d1.mono s2) d2) (congrArg Nat.succ l2)
/-- { "k": v, .. }, at most 15 keys, each once -/
def xdisp (ks : List PySem.Str) (a : M (List D)) : M R := fun G => bd (a G) fun xs G1 => if ks.Nodup ∧ ks.length ≤ 15 then some (.im (.dic ks xs), G1) else none
theorem zip_pairs : ∀ (ks : List PySem.Str) (vs : List V), (ks.map V.str).zip vs = (kvz ks vs).map fun kv => (kV kv.1, kv.2)
  | [], _ => rfl
  | _ :: _, [] => rfl
  | k :: ks, v :: vs => by
    show (V.str k, v) :: (ks.map V.str).zip vs = (kV (.inr k), v) :: (kvz ks vs).map _
    rw [zip_pairs ks vs]
    rfl
theorem mergeK_nd : ∀ {more kvs : List (Key × V)}, ((kvs ++ more).map (·.1)).Nodup → mergeK kvs more = kvs ++ more
  | [], kvs, _ => (List.append_nil _).symm
  | m :: more, kvs, h => by
    have h1 : valV kvs m.1 = none := by
      cases z : valV kvs m.1 with
      | none => rfl
      | some v =>
        exfalso
        have a := valV_any m.1 kvs
        rw [z] at a
        obtain ⟨p, hp, hq⟩ := List.any_eq_true.mp a
        have hq' : p.1 = m.1 := of_decide_eq_true hq
        rw [List.map_append, List.map_cons] at h
        have := (List.nodup_append.mp h).2.2 p.1 (List.mem_map.mpr ⟨p, hp, rfl⟩) m.1 List.mem_cons_self
        exact this hq'
    show mergeK (putK kvs m.1 m.2) more = _
    rw [putK_new m.2 h1, mergeK_nd (by rw [List.append_assoc]; exact h), List.append_assoc]
    rfl
theorem kvz_keys : ∀ {ks : List PySem.Str} {vs : List V}, ks.length = vs.length → (kvz ks vs).map (·.1) = ks.map Sum.inr
  | [], [], _ => rfl
  | [], _ :: _, h => by cases h
  | _ :: _, [], h => by cases h
  | k :: ks, v :: vs, h => by
    show Sum.inr k :: (kvz ks vs).map (·.1) = Sum.inr k :: ks.map Sum.inr
    rw [kvz_keys (Nat.succ.inj h)]
theorem nd_inr : ∀ {ks : List PySem.Str}, ks.Nodup → (ks.map (Sum.inr : PySem.Str → Key)).Nodup
  | [], _ => by simp
  | k :: ks, h => by
    rw [List.nodup_cons] at h
    rw [List.map_cons, List.nodup_cons]
    refine ⟨fun z => ?_, nd_inr h.2⟩
    obtain ⟨y, hy, e⟩ := List.mem_map.mp z
    cases e
    exact h.1 hy
theorem gk_disp {trs : List (TE × TE)} {ks : List PySem.Str} {a : M (List D)} (h : PkOk K trs ks a) : GOk K (tDisp trs) (xdisp ks a) := fun Fz ba G σ H Hs res G' q e Q k => by
  obtain ⟨xs, G1, e1, e⟩ := bd_inv e
  split at e
  case isFalse => cases e
  rename_i hk
  cases e
  intro p hp
  have hfp : Fz p = none := by
    cases z : Fz p with
    | none => rfl
    | some o =>
      obtain ⟨z1, _⟩ := q.fz p o z
      rw [hp] at z1
      cases z1
  have q0 := q.hide (o := .dK []) hp
  refine h.run q0 e1 _ fun vs H2 Hs2 q2 s2 d2 l2 => ?_
  obtain ⟨hp2, hsp2⟩ := q2.fz p (.dK []) upd_same
  have hm : mergeK [] (kvz ks vs) = kvz ks vs := mergeK_nd (by rw [List.nil_append, kvz_keys l2.symm]; exact nd_inr hk.1)
  refine ⟨hp2, kvz ks vs, zip_pairs ks vs, ?_, ?_⟩
  · rw [List.length_zip, List.length_map]
    exact Nat.le_trans (Nat.min_le_left _ _) hk.2
  · rw [hm]
    have q3 : Rel K (upd Fz p (.dK (kvz ks vs))) ba G' σ (upd H2 p (.dK (kvz ks vs))) Hs2 := q2.rehide
    have q4 := q3.unhide hfp
    have q5 := q4.froze (p := p) (o := .dK (kvz ks vs)) upd_same hsp2 hfp fun i en g m z => by
      obtain ⟨m', w⟩ : ∃ m', en.mu = some m' := by
        cases w : en.mu with
        | none => exact absurd w m
        | some m' => exact ⟨m', rfl⟩
      obtain ⟨l, o, a1, a2, a3, a4, a5⟩ := q3.mu i en m' g w
      rw [z] at a1
      cases a1
      rw [upd_same] at a4
      cases a4
    exact k _ _ _ q5.1 (s2.trans q5.2) (.dic (.inl upd_same) (d2.mono q5.2) l2.symm)
end
end Bk
namespace Bk
open PySem L2 PySem.Spec PyProof.Rows
def pick {α : Type} (is : List Nat) (l : List α) : List α := is.filterMap fun i => l[i]?
theorem paired_at {α β : Type} {R : α → β → Prop} : ∀ {as : List α} {bs : List β} (i : Nat), Paired R as bs → (as[i]? = none ∧ bs[i]? = none) ∨ ∃ a b, as[i]? = some a ∧ bs[i]? = some b ∧ R a b
  | _, _, _, .nil => .inl ⟨by simp, by simp⟩
  | _, _, 0, .cons h _ => .inr ⟨_, _, rfl, rfl, h⟩
  | _, _, i + 1, .cons _ t => by
    rcases paired_at i t with ⟨a, b⟩ | ⟨a, b, h1, h2, h3⟩
    · exact .inl ⟨by simpa using a, by simpa using b⟩
    · exact .inr ⟨a, b, by simpa using h1, by simpa using h2, h3⟩
theorem pick_pair {α β : Type} {R : α → β → Prop} {as : List α} {bs : List β} (h : Paired R as bs) : ∀ is : List Nat, Paired R (pick is as) (pick is bs)
  | [] => .nil
  | i :: is => by
    rcases paired_at i h with ⟨a, b⟩ | ⟨a, b, h1, h2, h3⟩
    · have e1 : pick (i :: is) as = pick is as := by unfold pick; rw [List.filterMap_cons, a]
      have e2 : pick (i :: is) bs = pick is bs := by unfold pick; rw [List.filterMap_cons, b]
      rw [e1, e2]
      exact pick_pair h is
    · have e1 : pick (i :: is) as = a :: pick is as := by unfold pick; rw [List.filterMap_cons, h1]
      have e2 : pick (i :: is) bs = b :: pick is bs := by unfold pick; rw [List.filterMap_cons, h2]
      rw [e1, e2]
      exact .cons h3 (pick_pair h is)
section
variable {K : PySem.W.Frag}
theorem pick_drs {H : Hp} {vs : List V} {ds : List D} (h : DRs K H vs ds) : ∀ is : List Nat, DRs K H (pick is vs) (pick is ds)
  | [] => .nil
  | i :: is => by
    cases z : vs[i]? with
    | none =>
      have z2 : ds[i]? = none := by
        rw [List.getElem?_eq_none_iff] at z ⊢
        rw [← h.len]
        exact z
      have e1 : pick (i :: is) vs = pick is vs := by unfold pick; rw [List.filterMap_cons, z]
      have e2 : pick (i :: is) ds = pick is ds := by unfold pick; rw [List.filterMap_cons, z2]
      rw [e1, e2]
      exact pick_drs h is
    | some v =>
      obtain ⟨d, h1, h2⟩ := h.ta z
      have e1 : pick (i :: is) vs = v :: pick is vs := by unfold pick; rw [List.filterMap_cons, z]
      have e2 : pick (i :: is) ds = d :: pick is ds := by unfold pick; rw [List.filterMap_cons, h1]
      rw [e1, e2]
      exact .cons h2 (pick_drs h is)
section
variable {x qual : PySem.Str} {params : Arguments} {body : List Stmt} {scope : Scope} {dvs : List V} {f : Addr} {fd : FuncData} {ps : List PySem.Str}
theorem kb_D (F : FunD K x qual params body scope dvs [] f fd) (n : Nat) (ks : List PySem.Str) (is : List Nat) (hd : dvs ≠ [])
    (h : ∀ (T : Addr) (kV doc pm : Value) (an : Option Addr) (cdv ct : Value) (us its ws : List Value), us.length = n → its.length = dvs.length → ws.length = ks.length →
      ∃ k, bindArgs (PySem.W.fnOf x qual params body scope (.ref T) kV doc pm an cdv ct) ⟨us, ks.zip ws⟩ = seqItems? (.ref T) >>= k ∧ k (some its.toArray) = pure (ps.zip (pick is (us ++ (ws ++ its))))) :
    ∃ its : List Value, KBn K fd ps n ks (fun us ws => pick is (us ++ (ws ++ its))) (fun vs zs => pick is (vs ++ (zs ++ dvs))) :=
  F.kbindsD n ks (fun us its ws => pick is (us ++ (ws ++ its))) hd (fun r1 r2 r3 => pick_pair (r1.append (r3.append r2)) is) h
end
end
/-- o.m(k = v, ..) -/
def tMethN (C : Addr) (m : PySem.Str) (k : Nat) (sp : Sp) (gV : List V → List V → List V) (E : XK) (ta : TE) (tk : TA) : TE := fun σ H Q => ta σ H fun x H1 => ∃ a dx fs, x = .ref a ∧ H1 a = some (.ins C dx fs) ∧ fs.lookup m = none ∧
  tk σ H1 fun zs H2 => zs.length = k ∧ sp (gV [.ref a] zs) H2 Q E
/-- C.m(k = v, ..), a classmethod -/
def tCMethN (C : Addr) (k : Nat) (sp : Sp) (gV : List V → List V → List V) (E : XK) (ta : TE) (tk : TA) : TE := fun σ H Q => ta σ H fun x H1 => x = .ref C ∧ tk σ H1 fun zs H2 => zs.length = k ∧ sp (gV [.ref C] zs) H2 Q E
/-- a local name that holds the class at C, called -/
def tMakeL (C : Addr) (sp : Sp) (dvs : List V) (E : XK) (ta : TE) (t : TA) : TE := fun σ H Q => ta σ H fun x H1 => x = .ref C ∧ tMake C sp dvs E t σ H1 Q
section
variable {X : Cx} {CX : CXT} {k n : Nat} {f C p g : Addr} {mc : Value} {fd : FuncData} {ps ks : List PySem.Str} {sp : Sp} {E : XK} {x m : PySem.Str} {p0 pos apos : Pos} {o e : Expr} {es : List Expr} {kws : List Keyword} {ta : TE} {t tk : TA} {gL : List Value → List Value → List Value} {gV : List V → List V → List V}
  {ds : List Value} {dvs : List V}
/-- f(k = v, ..) -/
theorem pe_callN0 (F : FnOk X.prog X.w X.K X.mg X.base CX k f fd ps sp) (hr : Room k X.A) (hg : Gl X x) (hm : X.mg x = some (.ref f)) (hk : PySem.W.keepIn X.K (.ref f) = true) (hb : KBn X.K fd ps 0 ks gL gV) (hx : Passes CX X E)
    (hkw : PK X kws tk) (hall : (backToKw pos (keywordEach kws X.env)).all (·.1.isSome) = true := by rfl) (hks : (backToKw pos (keywordEach kws X.env)).filterMap (·.1) = ks := by rfl)
    (hdb : (x == ("__debug__" : PySem.Str)) = false := by decide) (hpl : ((backTo pos (starEach [] X.env)).any (·.1) || (backToKw pos (keywordEach kws X.env)).any (·.1.isNone)) = false := by rfl) :
    PE X (.Call (.Name x p0) [] kws pos) (tCallN 0 ks.length sp gV E tNil tk) := by
  refine ⟨fun pins s σ H Q I h => ?_⟩
  refine wpAny_Call_Name_kw (ld_glob I hg hm ?_ hdb)
  refine PySem.W.callWith_KW0 (h₀ := X.base) I.ok.mod.kin hk hall ?_ hpl
  refine thn (hkw.run pos pins s σ H _ I h) fun ws s2 ⟨zs, H2, I2, rz, l1, l2, q2⟩ => ⟨I2.kIn, ?_⟩
  rw [hks]
  exact run_fnN (us := []) (vs := []) F hr hb hx I2 .nil rz rfl l2 q2
theorem pe_methN {pl : Sem Bool} (he : PE X o ta) (c : Cls X.K C) (hm : Meth X.K C m f) (F : FnOk X.prog X.w X.K X.mg X.base CX k f fd ps sp) (hr : Room k X.A) (hb : KBn X.K fd ps 1 ks gL gV) (hx : Passes CX X E) (hkw : PK X kws tk)
    (hall : (backToKw pos (keywordEach kws X.env)).all (·.1.isSome) = true := by rfl) (hks : (backToKw pos (keywordEach kws X.env)).filterMap (·.1) = ks := by rfl)
    (hpl : ((backTo pos (starEach [] X.env)).any (·.1) || (backToKw pos (keywordEach kws X.env)).any (·.1.isNone)) = false := by rfl)
    (ht : eval (.Call (.Attribute o m apos) [] kws pos) X.env = (do
      let ov ← eval o X.env
      standAt apos.atName
      let (f, first) ← holding [ov] (getMethod ov m pl)
      callWith pos f first (backTo pos (starEach [] X.env)) (backToKw pos (keywordEach kws X.env))) := by rfl) :
    PE X (.Call (.Attribute o m apos) [] kws pos) (tMethN C m ks.length sp gV E ta tk) := by
  refine ⟨fun pins s σ H Q I h => ?_⟩
  refine PySem.W.methodCall_KW (pl := pl) (thn (he.run pins s σ H _ I h) fun u s1 ⟨x, H1, I1, rx, a, dx, fs, ex, ea, l, q⟩ => ?_) ht
  subst ex
  obtain rfl : u = Value.ref a := rx
  refine getmeth_ok I1 ea c hm l ?_
  refine PySem.W.callWith_KW0 (first := [.ref a]) (h₀ := X.base) I.ok.mod.kin hm.kp hall ?_ hpl
  refine thn (hkw.run pos pins s1 σ H1 _ I1 q) fun ws s2 ⟨zs, H2, I2, rz, l2, q2⟩ => ⟨I2.kIn, ?_⟩
  rw [hks]
  exact run_fnN (us := [.ref a]) (vs := [.ref a]) F hr hb hx I2 (.cons rfl .nil) rz rfl l2 q2
theorem pe_cmethN {pl : Sem Bool} (he : PE X o ta) (r : ClX.CRead X.K C mc) (c : ClX.CMet X.K C mc m p g) (F : FnOk X.prog X.w X.K X.mg X.base CX k g fd ps sp) (hr : Room k X.A) (hb : KBn X.K fd ps 1 ks gL gV) (hx : Passes CX X E) (hkw : PK X kws tk)
    (hall : (backToKw pos (keywordEach kws X.env)).all (·.1.isSome) = true := by rfl) (hks : (backToKw pos (keywordEach kws X.env)).filterMap (·.1) = ks := by rfl)
    (hpl : ((backTo pos (starEach [] X.env)).any (·.1) || (backToKw pos (keywordEach kws X.env)).any (·.1.isNone)) = false := by rfl)
    (ht : eval (.Call (.Attribute o m apos) [] kws pos) X.env = (do
      let ov ← eval o X.env
      standAt apos.atName
      let (f, first) ← holding [ov] (getMethod ov m pl)
      callWith pos f first (backTo pos (starEach [] X.env)) (backToKw pos (keywordEach kws X.env))) := by rfl) :
    PE X (.Call (.Attribute o m apos) [] kws pos) (tCMethN C ks.length sp gV E ta tk) := by
  refine ⟨fun pins s σ H Q I h => ?_⟩
  refine PySem.W.methodCall_KW (pl := pl) (thn (he.run pins s σ H _ I h) fun u s1 ⟨x, H1, I1, rx, ex, q⟩ => ?_) ht
  subst ex
  obtain rfl : u = Value.ref C := rx
  refine ClX.getmethcm_ok I1 r c fun s2 I2 => ?_
  refine PySem.W.callWith_of (P := PySem.W.MethP X.K s1.heap.objs.size g (.ref C)) hpl (PySem.W.keeps_M c.fi) (evalArgs_kw2_nil hall ?_)
  refine thn (hkw.run pos _ s2 σ H1 _ I2 q) fun ws s3 ⟨zs, H2, I3, rz, l2, q2⟩ => ⟨⟨ClX.pin_at I3, I3.kIn⟩, ?_⟩
  rw [hks]
  have z : wpAny (model X.prog X.w) X.A (call (.ref s1.heap.objs.size) [] (ks.zip ws)) (EP X ((s1.heap.objs.size, PySem.W.methodObj (.ref g) (.ref C)) :: pins) σ Q) X.xe s3 := by
    have r2 := hb.rel (vs := [.ref C]) (us := [.ref C]) (.cons rfl .nil) rz
    refine wpAny_call (PySem.W.method_call (ClX.pin_at I3) (codeAny_mono (F.run X.A X.stack s3 H2 ⟨[.ref C], ks.zip ws⟩ (gL [.ref C] ws) (gV [.ref C] zs) Q E hr I3.env0 (hb.to s3 [.ref C] ws I3.kIn rfl (rz.length.symm.trans l2)) r2 q2) fun r s' hq => ?_))
    cases r with
    | error e => exact hx _ σ H2 s3 e s' I3 hq
    | ok fl =>
      cases fl with
      | ret u => exact I3.after hq
      | next => exact False.elim hq
      | brk => exact False.elim hq
      | cont => exact False.elim hq
  exact thn z fun _ _ y => ClX.unpinE y
theorem pe_makeL (he : PE X (.Name x p0) ta) (M : Mk X.K C f) (F : FnOk X.prog X.w X.K X.mg X.base CX k f fd ps sp) (hr : Room (k + 1) X.A) (hb : Binds X.K fd ps ds) (hd : Vals dvs ds) (hx : Passes CX X E)
    (ha : PA X (e :: es) t) (hst : starEach (e :: es) X.env = (false, eval e X.env) :: starEach es X.env := by rfl) (hpl : (backTo pos (starEach es X.env)).any (·.1) = false := by rfl) :
    PE X (.Call (.Name x p0) (e :: es) [] pos) (tMakeL C sp dvs E ta t) := by
  refine ⟨fun pins s σ H Q I h => ?_⟩
  refine wpAny_Call_Name_kw (thn (he.run pins s σ H _ I h) fun u s1 ⟨v, H1, I1, rx, ex, q⟩ => ?_)
  subst ex
  obtain rfl : u = Value.ref C := rx
  refine PySem.W.callWith_K (h₀ := X.base) I.ok.mod.kin M.kp (thn (ha.run pos pins s1 σ H1 _ I1 q) fun us s2 ⟨vs, H2, I2, r, q2⟩ => ⟨I2.kIn, ?_⟩) hst hpl
  exact run_make M F hr hb hd hx I2 r q2
end
def xcallK (m : List D → Option R) (n k : Nat) (is : List Nat) (dds : List D) (a ka : M (List D)) : M R := fun G => bd (a G) fun xs G1 => bd (ka G1) fun ys G2 => if xs.length = n ∧ ys.length = k then (match m (pick is (xs ++ (ys ++ dds))) with
  | some r => some (r, G2)
  | none => none) else none
def xmakeK (c : Nat) (m : Mob → List D → Option (R × Mob)) (n k : Nat) (is : List Nat) (dds : List D) (a ka : M (List D)) : M R := fun G => bd (a G) fun xs G1 => bd (ka G1) fun ys G2 => if xs.length = n ∧ ys.length = k then (match m (.o c []) (pick is (xs ++ (ys ++ dds))) with
  | some (.im .non, m') => some (.ow m', G2)
  | _ => none) else none
def xmethK (c : Nat) (m : List D → Option R) (k : Nat) (is : List Nat) (dds : List D) (a : M R) (ka : M (List D)) : M R := fun G => bd (a G) fun x G1 => match x.d with
  | .obj c' ds => if c' = c then bd (ka G1) fun ys G2 => (if ys.length = k then (match m (.obj c' ds :: pick is (ys ++ dds)) with
    | some r => some (r, G2)
    | none => none) else none) else none
  | _ => none
def xcmeth (c : Nat) (m : List D → Option R) (k : Nat) (is : List Nat) (dds : List D) (a : M R) (ka : M (List D)) : M R := fun G => bd (a G) fun x G1 => match x.d with
  | .cl c' => if c' = c then bd (ka G1) fun ys G2 => (if ys.length = k then (match m (.cl c' :: pick is (ys ++ dds)) with
    | some r => some (r, G2)
    | none => none) else none) else none
  | _ => none
/-- C.m(e, ..), a classmethod -/
def xmethC (c : Nat) (m : List D → Option R) (a : M R) (as : M (List D)) : M R := fun G => bd (a G) fun x G1 => match x.d with
  | .cl c' => if c' = c then bd (as G1) fun ys G2 => (match m (.cl c' :: ys) with
    | some r => some (r, G2)
    | none => none) else none
  | _ => none
def xmakeL (c : Nat) (m : Mob → List D → Option (R × Mob)) (dds : List D) (x : M R) (a : M (List D)) : M R := fun G => bd (x G) fun v G1 => match v.d with
  | .cl c' => if c' = c then xmake c m dds a G1 else none
  | _ => none
section
variable {K : PySem.W.Frag} {mg : PySem.Str → Option Value}
theorem gk_callK {m : List D → Option R} {n k : Nat} {is : List Nat} {dds : List D} {dvs : List V} {E : XK} {ta tk : TA} {a ka : M (List D)} (hd : ∀ H, DRs K H dvs dds) (ha : AOk K ta a) (hk : AOk K tk ka) :
    GOk K (tCallN n k (spF K m) (fun vs zs => pick is (vs ++ (zs ++ dvs))) E ta tk) (xcallK m n k is dds a ka) := fun Fz ba G σ H Hs res G' q e Q kk => by
  obtain ⟨xs, G1, e1, e⟩ := bd_inv e
  obtain ⟨ys, G2, e2, e⟩ := bd_inv e
  split at e
  case isFalse => cases e
  rename_i hl
  split at e
  case h_2 => cases e
  rename_i r h
  cases e
  refine ha Fz ba G σ H Hs xs _ q e1 _ fun vs H1 Hs1 q1 s1 d1 => ?_
  refine hk Fz ba G1 σ H1 Hs1 ys _ q1 e2 _ fun zs H2 Hs2 q2 s2 d2 => ⟨d1.len.trans hl.1, d2.len.trans hl.2, ?_⟩
  exact ⟨Hs2, _, _, q2.sub, pick_drs ((d1.mono s2).app (d2.app (hd _))) is, h, fun v H3 Hs3 ex rf => kk v H3 Hs3 (q2.ext ex) ((s1.trans s2).trans ex.b) (rf.res q2)⟩
/-- the places behind self -/
abbrev pk1 (is : List Nat) : List Nat := 0 :: is.map (· + 1)
theorem pick_head {α : Type} (a : α) (l : List α) (is : List Nat) : pick (pk1 is) (a :: l) = a :: pick is l := by
  unfold pick pk1
  rw [List.filterMap_cons]
  show a :: _ = _
  rw [List.filterMap_map]
  rfl
theorem gk_makeK {c : Nat} {m : Mob → List D → Option (R × Mob)} {k : Nat} {is : List Nat} {dds : List D} {dvs : List V} {E : XK} (T : ClT K mg c) (hd : ∀ H, DRs K H dvs dds) {ta tk : TA} {a ka : M (List D)} {n : Nat} (ha : AOk K ta a) (hk : AOk K tk ka) :
    GOk K (tMakeK T.C n k (spB K m) (fun vs zs => pick (pk1 is) (vs ++ (zs ++ dvs))) E ta tk) (xmakeK c m n k is dds a ka) := fun Fz ba G σ H Hs res G' q e0 Q kk => by
  obtain ⟨xs, G1, e1, e⟩ := bd_inv e0
  obtain ⟨ys, G2, e2, e⟩ := bd_inv e
  split at e
  case isFalse => cases e
  rename_i hl
  split at e
  case h_2 => cases e
  rename_i m' hm
  cases e
  refine ha Fz ba G σ H Hs xs _ q e1 _ fun vs H1 Hs1 q1 s1 d1 => ?_
  refine hk Fz ba G1 σ H1 Hs1 ys _ q1 e2 _ fun zs H2 Hs2 q2 s2 d2 => ⟨d1.len.trans hl.1, d2.len.trans hl.2, fun x dx hx hdx hne => ?_⟩
  have sm : Same H2 (upd (upd H2 dx (.own x)) x (.ins T.C dx [])) := fun b o hb => by
    rw [upd_ne (ne_of_none hb hx), upd_ne (ne_of_none hb hdx)]
    exact hb
  refine ⟨Hs2, x, pick is (vs ++ (zs ++ dvs)), _, .o c [], pick is (xs ++ (ys ++ dds)), .im .non, m', pick_head _ _ _, q2.sub.trans sm, upd_same, none_sub q2.sub hx, ⟨T.C, dx, [], T.at_, rfl, rfl, .nil⟩, pick_drs ((d1.mono s2).app (d2.app (hd _))) is, hm, fun v H3 Hs3 o2 ex hl2 hn hd2 rf => ?_⟩
  refine ⟨by cases rf; rfl, ?_⟩
  have ex2 : Ext H2 Hs2 H3 Hs3 := ⟨fun b o hb => ex.a b o (ne_of_none hb hx) (sm b o hb), ex.b, ex.c, fun b o hb hnb => ex.n b o (sm b o hb) hnb⟩
  have rf2 : ResF K H2 H3 Hs3 (.ref x) (.ow m') := ⟨x, o2, rfl, hx, hl2, hn, hd2⟩
  exact kk _ H3 Hs3 (q2.ext ex2) ((s1.trans s2).trans ex.b) (rf2.res q2)
theorem gk_methK {c : Nat} {nm : PySem.Str} {m : List D → Option R} {k : Nat} {is : List Nat} {dds : List D} {dvs : List V} {E : XK} (T : ClT K mg c) (hn : nm ∉ cAttrs c) (hd : ∀ H, DRs K H dvs dds) {ta : TE} {tk : TA} {a : M R} {ka : M (List D)} (ha : GOk K ta a) (hk : AOk K tk ka) :
    GOk K (tMethN T.C nm k (spF K m) (fun vs zs => pick (pk1 is) (vs ++ (zs ++ dvs))) E ta tk) (xmethK c m k is dds a ka) := fun Fz ba G σ H Hs res G' q e0 Q kk => by
  obtain ⟨x, G1, e1, e⟩ := bd_inv e0
  refine ha.im q e1 fun v H1 Hs1 q1 s1 d1 => ?_
  cases hx : x.d with
  | obj c' ds =>
    rw [hx] at e d1
    simp only at e
    split at e
    case isFalse => cases e
    rename_i hc
    subst hc
    obtain ⟨ys, G2, e2, e⟩ := bd_inv e
    split at e
    case isFalse => cases e
    rename_i hl
    split at e
    case h_2 => cases e
    rename_i r hm
    cases e
    have dd := d1
    cases d1 with
    | obj hC hH hns hv hs =>
      subst hv
      cases hC.eq T.at_
      refine ⟨_, _, _, rfl, q1.sub _ _ hH, fs_none (fun z => hn ?_), ?_⟩
      · rw [hns] at z
        exact List.mem_of_mem_take z
      · refine hk Fz ba G1 σ H1 Hs1 ys _ q1 e2 _ fun zs H2 Hs2 q2 s2 d2 => ⟨d2.len.trans hl, ?_⟩
        refine ⟨Hs2, _, _, q2.sub, ?_, hm, fun v H3 Hs3 ex rf => kk v H3 Hs3 (q2.ext ex) ((s1.trans s2).trans ex.b) (rf.res q2)⟩
        have z : ∀ v : V, pick (pk1 is) ([v] ++ (zs ++ dvs)) = v :: pick is (zs ++ dvs) := fun v => pick_head v _ _
        exact (congrArg (fun l => DRs K Hs2 l _) (z _)).mpr (DRs.cons (dd.mono s2) (pick_drs (d2.app (hd _)) is))
  | _ => rw [hx] at e; cases e
theorem gk_cmethK {c : Nat} {m : List D → Option R} {k : Nat} {is : List Nat} {dds : List D} {dvs : List V} {E : XK} (T : ClT K mg c) (hd : ∀ H, DRs K H dvs dds) {ta : TE} {tk : TA} {a : M R} {ka : M (List D)} (ha : GOk K ta a) (hk : AOk K tk ka) :
    GOk K (tCMethN T.C k (spF K m) (fun vs zs => pick (pk1 is) (vs ++ (zs ++ dvs))) E ta tk) (xcmeth c m k is dds a ka) := fun Fz ba G σ H Hs res G' q e0 Q kk => by
  obtain ⟨x, G1, e1, e⟩ := bd_inv e0
  refine ha.im q e1 fun v H1 Hs1 q1 s1 d1 => ?_
  cases hx : x.d with
  | cl c' =>
    rw [hx] at e d1
    simp only at e
    split at e
    case isFalse => cases e
    rename_i hc
    subst hc
    obtain ⟨ys, G2, e2, e⟩ := bd_inv e
    split at e
    case isFalse => cases e
    rename_i hl
    split at e
    case h_2 => cases e
    rename_i r hm
    cases e
    have dd := d1
    cases d1 with
    | cl hC =>
      cases hC.eq T.at_
      refine ⟨rfl, ?_⟩
      refine hk Fz ba G1 σ H1 Hs1 ys _ q1 e2 _ fun zs H2 Hs2 q2 s2 d2 => ⟨d2.len.trans hl, ?_⟩
      refine ⟨Hs2, _, _, q2.sub, ?_, hm, fun v H3 Hs3 ex rf => kk v H3 Hs3 (q2.ext ex) ((s1.trans s2).trans ex.b) (rf.res q2)⟩
      have z : ∀ v : V, pick (pk1 is) ([v] ++ (zs ++ dvs)) = v :: pick is (zs ++ dvs) := fun v => pick_head v _ _
      exact (congrArg (fun l => DRs K Hs2 l _) (z _)).mpr (DRs.cons (dd.mono s2) (pick_drs (d2.app (hd _)) is))
  | _ => rw [hx] at e; cases e
theorem gk_cmeth {c : Nat} {m : List D → Option R} {E : XK} (T : ClT K mg c) {ta : TE} {t : TA} {a : M R} {as : M (List D)} (ha : GOk K ta a) (has : AOk K t as) :
    GOk K (ClX.tCMeth T.C (fun vs H Q E => spF K m (vs ++ []) H Q E) E ta t) (xmethC c m a as) := fun Fz ba G σ H Hs res G' q e0 Q kk => by
  obtain ⟨x, G1, e1, e⟩ := bd_inv e0
  refine ha.im q e1 fun v H1 Hs1 q1 s1 d1 => ?_
  cases hx : x.d with
  | cl c' =>
    rw [hx] at e d1
    simp only at e
    split at e
    case isFalse => cases e
    rename_i hc
    subst hc
    obtain ⟨ys, G2, e2, e⟩ := bd_inv e
    split at e
    case h_2 => cases e
    rename_i r hm
    cases e
    have dd := d1
    cases d1 with
    | cl hC =>
      cases hC.eq T.at_
      refine ⟨rfl, ?_⟩
      refine has Fz ba G1 σ H1 Hs1 ys _ q1 e2 _ fun zs H2 Hs2 q2 s2 d2 => ?_
      exact ⟨Hs2, _, _, q2.sub, by rw [List.append_nil]; exact .cons (dd.mono s2) d2, hm, fun v H3 Hs3 ex rf => kk v H3 Hs3 (q2.ext ex) ((s1.trans s2).trans ex.b) (rf.res q2)⟩
  | _ => rw [hx] at e; cases e
theorem gk_makeL {c : Nat} {m : Mob → List D → Option (R × Mob)} {dds : List D} {dvs : List V} {E : XK} (T : ClT K mg c) (hd : ∀ H, DRs K H dvs dds) {ta : TE} {t : TA} {x : M R} {a : M (List D)} (hx : GOk K ta x) (ha : AOk K t a) :
    GOk K (tMakeL T.C (spB K m) dvs E ta t) (xmakeL c m dds x a) := fun Fz ba G σ H Hs res G' q e0 Q kk => by
  obtain ⟨v, G1, e1, e⟩ := bd_inv e0
  refine hx.im q e1 fun w H1 Hs1 q1 s1 d1 => ?_
  cases hv : v.d with
  | cl c' =>
    rw [hv] at e d1
    simp only at e
    split at e
    case isFalse => cases e
    rename_i hc
    subst hc
    cases d1 with
    | cl hC =>
      cases hC.eq T.at_
      exact ⟨rfl, gk_make T hd ha Fz ba G1 σ H1 Hs1 res G' q1 e Q fun u H2 Hs2 q2 s2 d2 => kk u H2 Hs2 q2 (s1.trans s2) d2⟩
  | _ => rw [hv] at e; cases e
end
end Bk
namespace Bk
open PySem L2 PySem.Spec PyProof.Rows
/-- a classmethod of the text -/
structure FnCM (K : PySem.W.Frag) (C : Addr) (x qual : PySem.Str) (st : Stmt) where
  p : Addr
  f : Addr
  fd : FuncData
  mc : Value
  F : Fun K x qual st f fd
  r : ClX.CRead K C mc
  m : ClX.CMet K C mc x p f
section
variable {K : PySem.W.Frag}
theorem kb_F {x qual : PySem.Str} {st : Stmt} {f : Addr} {fd : FuncData} {ps : List PySem.Str} (F : Fun K x qual st f fd) (n : Nat) (ks : List PySem.Str) (is : List Nat)
    (h : ∀ (kV doc pm : Value) (an : Option Addr) (cdv ct : Value) (us ws : List Value), us.length = n → ws.length = ks.length → bindArgs (PySem.W.fnOf x qual (defArgs st) (defBody st) (defScope st) .none kV doc pm an cdv ct) ⟨us, ks.zip ws⟩ = pure (ps.zip (pick is (us ++ ws)))) :
    KBn K fd ps n ks (fun us ws => pick is (us ++ (ws ++ []))) (fun vs zs => pick is (vs ++ (zs ++ []))) := by
  obtain ⟨oc, od, kV, doc, pm, an, cdv, ct, osl, rfl, lk, hcd⟩ := F.ex
  refine ⟨fun s us ws X l1 l2 => BindsTo.of_eq ?_, fun r1 r2 => pick_pair (r1.append (r2.append .nil)) is⟩
  rw [List.append_nil]
  exact h kV doc pm an cdv ct us ws l1 l2
theorem r1h {k : Nat} {A : Around} (hr : Room k A) : A.units + 1 < cLine := by
  have := r70 hr
  omega
theorem ln0 {α : Type} {us : List α} (hl : us.length = 0) : us = [] := match us, hl with | [], _ => rfl
theorem ln1 {α : Type} {us : List α} (hl : us.length = 1) : ∃ a, us = [a] := match us, hl with | [a], _ => ⟨a, rfl⟩
theorem ln2 {α : Type} {us : List α} (hl : us.length = 2) : ∃ a b, us = [a, b] := match us, hl with | [a, b], _ => ⟨a, b, rfl⟩
theorem ln3 {α : Type} {us : List α} (hl : us.length = 3) : ∃ a b c, us = [a, b, c] := match us, hl with | [a, b, c], _ => ⟨a, b, c, rfl⟩
theorem ln4 {α : Type} {us : List α} (hl : us.length = 4) : ∃ a b c d, us = [a, b, c, d] := match us, hl with | [a, b, c, d], _ => ⟨a, b, c, d, rfl⟩
def cbIntS : List D → Option R
  | [.str a] => match PySem.intText? a with
    | some n => if a.length ≤ 640 then some (.im (.int n)) else none
    | none => none
  | l => cbInt l
theorem cd_intS : CbD K (fun xs H Q => rInt xs H Q ∨ ∃ a n, xs = [.str a] ∧ PySem.intText? a = some n ∧ a.length ≤ 640 ∧ Q (.int n) H) cbIntS := fun H Hs xs ds res s h e Q k => by
  unfold cbIntS at e
  split at e
  · rename_i a
    split at e
    case h_2 => cases e
    rename_i n hn
    split at e
    case isFalse => cases e
    rename_i hl
    cases e
    cases h with
    | cons a1 b1 =>
      cases b1
      cases a1
      exact .inr ⟨_, n, rfl, hn, hl, k _ H Hs (Ext.refl s) (.int _)⟩
  · exact .inl (cd_int H Hs xs ds res s h e Q k)
end
end Bk
namespace Bk
open PySem L2 PySem.Spec PyProof.Rows
section
variable {K : PySem.W.Frag}
def signsD (x : PySem.Str) : List D := x.cps.toList.map fun c => .str ⟨#[c]⟩
def xstrI (a : M R) : M (List D) := fun G => bd (a G) fun x G1 => match x.d with
  | .str z => some (signsD z, G1)
  | _ => none
theorem yl_str {H : Hp} (x : PySem.Str) : Yl K (Its x) (signsD x) H where
  go := fun i H' _ h => by
    unfold signsD at h
    rw [List.length_map, Array.length_toList] at h
    exact h
  stop := fun i H' _ h => by
    unfold signsD at h
    rw [List.length_map, Array.length_toList] at h
    exact h
  yld := fun i v H1 H2 Hs h s1 s2 y => by
    obtain ⟨rfl, c, hc, rfl⟩ := y
    refine ⟨.str ⟨#[c]⟩, Hs, ?_, Ext.refl s2, .str _⟩
    unfold signsD
    rw [List.getElem?_map, Array.getElem?_toList, hc]
    rfl
theorem ik_strI {ta : TE} {a : M R} (ha : GOk K ta a) : IOk K (iStr ta) (xstrI a) := fun Fz ba G σ H Hs ds G' q e Q k => by
  obtain ⟨x, G1, e1, e⟩ := bd_inv e
  refine ha.im q e1 fun v H1 Hs1 q1 s1 d => ?_
  cases h : x.d with
  | str z =>
    rw [h] at e d
    cases e
    cases dr_str d
    exact ⟨z, rfl, k _ H1 Hs1 q1 s1 (yl_str z)⟩
  | _ => rw [h] at e; cases e
end
end Bk
namespace PySem
open PySem.Spec
section
variable {prog : Program} {w : World} {K : Type} [DecidableEq K] {knd : KeyKind prog w K} {A : Around} {E : Value → Shared → Prop} {s : Shared}
theorem wpAny_dictPut_pairs {d : Addr} {kvs : List (K × Value)} {k : K} {key v : Value} {Q : Unit → Shared → Prop} (hkey : knd.is k key = true) (hm : s.heap.DictOf knd d kvs)
    (hQ : ∀ h', h'.DictOf knd d (stored kvs k v) → Heap.SameBut d s.heap h' → Q () { s with heap := h' })
    (hsz : kvs.length ≤ sizeLine := by size_fits) :
    wpAny (model prog w) A (dictPut d (knd.hash k) key v) Q E s := by
  obtain ⟨o, es, ep, ho, hc, hd, hk, hp, hn⟩ := hm
  have hes : es.size ≤ sizeLine := by have e1 := hp.length; have e2 : es.toList.length = es.size := by simp
                                      omega
  unfold dictPut
  refine wpAny_bind (wpAny_dictFind_of hkey ho hd hk ?_)
  have hidx : (es.findIdx? fun e => knd.is k e.key) = kvs.findIdx? fun kv => decide (kv.1 = k) := by
    rw [← hp.findIdx k]; obtain ⟨l⟩ := es; simp
  cases hi : es.findIdx? fun e => knd.is k e.key with
  | some i =>
    refine wpAny_updateDict ho hd (hQ _ ⟨_, _, ep, Heap.get?_update_self _ ho (Obj.isFreed_of_dict (Obj.data_mapDict hd _)),
      hc.mapDict _, Obj.data_mapDict hd _, hk.modify _ _, ?_, ?_⟩ (Heap.SameBut.update ..))
    · rw [stored, if_pos (any_of_findIdx_some (hidx ▸ hi))]
      have hl : (es.toList.findIdx? fun e => knd.is k e.key) = some i := by rw [← hi]; obtain ⟨l⟩ := es; simp
      have := hp.modify hn hl v
      obtain ⟨l⟩ := es
      simpa using this
    · rw [stored, if_pos (any_of_findIdx_some (hidx ▸ hi)), keys_map_store]; exact hn
  | none =>
    have hnot : k ∉ kvs.map (·.1) := not_mem_of_findIdx_none (hidx ▸ hi)
    have hany : ¬ (kvs.any fun kv => decide (kv.1 = k)) = true := by
      rw [List.any_eq_true]; rintro ⟨kv, hkv, he⟩
      exact hnot (List.mem_map.mpr ⟨kv, hkv, of_decide_eq_true he⟩)
    refine wpAny_updateDictKeys (hz := hes) ho hd (hQ _ ⟨_, _, ep + 1, Heap.get?_update_self _ ho (Obj.isFreed_of_dict (Obj.data_mapDictKeys hd _)),
      hc.mapDictKeys _, Obj.data_mapDictKeys hd _, hk.push hkey _, ?_, ?_⟩ (Heap.SameBut.update ..))
    · rw [stored, if_neg hany]
      have := hp.append hkey (knd.hash k) v
      obtain ⟨l⟩ := es
      simpa using this
    · rw [stored, if_neg hany, List.map_append, List.nodup_append]
      refine ⟨hn, by simp, ?_⟩
      intro a ha b hb
      simp only [List.map_cons, List.map_nil, List.mem_singleton] at hb
      subst hb
      exact fun e => hnot (e ▸ ha)
theorem wpAny_mergeMapping {d o : Addr} {kvs more : List (K × Value)} {Q : Unit → Shared → Prop} (hdo : d ≠ o) (hoS : (o == sysModules) = false)
    (href : ∀ (k : K) (a : Addr), knd.is k (.ref a) = false)
    (hd : s.heap.DictOf knd d kvs) (ho : s.heap.DictOf knd o more)
    (hQ : ∀ h', h'.DictOf knd d (merged kvs more) → h'.DictOf knd o more → Heap.SameBut d s.heap h' → Q () { s with heap := h' })
    (hsz : kvs.length + more.length ≤ sizeLine) :
    wpAny (model prog w) A (mergeMapping d (.ref o) false) Q E s := by
  obtain ⟨od, esd, epd, hod, hcd, hdd, hkd, hpd, hnd⟩ := id hd
  obtain ⟨oo, eso, epo, hoo, hco, hdo', hko, hpo, hno⟩ := id ho
  have hlen : more.length = eso.size := by rw [← hpo.length]; simp
  have tyI : s.TypeIs (.ref o) "dict" := ho.typeIs
  unfold mergeMapping
  refine wpAny_bind (wpAny_isInstance (b := true) tyI (by rfl) ?_)
  rw [if_pos rfl]
  refine wpAny_bind (wpAny_specialOf tyI F.slot_dict_iter.lookup (wpAny_bind (wpAny_pure ?_)))
  dsimp only
  rw [show (some (Value.builtin "dict.__iter__") == some (Value.builtin "dict.__iter__")) = true from by decide]
  dsimp only
  rw [if_neg (by rw [hoS]; exact Bool.false_ne_true)]
  refine wpAny_bind (wpAny_dictEntries hod hdd ?_)
  have loop : wpAny (model prog w) A (do
            let l ← dictEntries o
            have size : Nat := l.size
            let epoch ← dictEpoch o
            forIn (List.range size) PUnit.unit fun i (_ : PUnit) => (do
                let l' ← dictEntries o
                match l'[i]? with
                  | some e => do
                    holding [e.key, e.val] (dictPut d e.hash e.key e.val)
                    let ep' ← dictEpoch o
                    if (ep' != epoch) = true then do
                        (unsupported "dict.changed-during-merge" : Sem Unit)
                        pure (ForInStep.yield PUnit.unit)
                      else pure (ForInStep.yield PUnit.unit)
                  | x => do
                    (unsupported "dict.changed-during-merge" : Sem Unit)
                    pure (ForInStep.yield PUnit.unit) : Sem (ForInStep PUnit))
            pure ()) Q E s := by
    refine wpAny_bind (wpAny_dictEntries hoo hdo' ?_)
    refine wpAny_bind (wpAny_dictEpoch hoo hdo' ?_)
    refine wpAny_bind ?_
    refine wpAny_forIn_list _
      (fun rest _ s' => ∃ h' i, s' = { s with heap := h' } ∧ rest = List.range' i (eso.size - i) ∧ i ≤ eso.size ∧ h'.DictOf knd d (merged kvs (more.take i)) ∧ h'.get? o = some oo ∧ Heap.SameBut d s.heap h')
      _ ?_ ?_ _ _ ⟨s.heap, 0, rfl, by rw [List.range_eq_range']; simp, Nat.zero_le _, by simpa [merged] using hd, hoo, Heap.SameBut.refl _ _⟩
    · rintro x rest b s' ⟨h', i, rfl, hr, hi, hd', hoo', hs'⟩
      have hlt : i < eso.size := by
        rcases Nat.lt_or_ge i eso.size with h | h
        · exact h
        · rw [Nat.sub_eq_zero_of_le h] at hr; simp at hr
      obtain ⟨rfl, hrest⟩ : x = i ∧ rest = List.range' (i + 1) (eso.size - (i + 1)) := by
        have e : eso.size - i = (eso.size - (i + 1)) + 1 := by omega
        rw [e, List.range'_succ] at hr
        injection hr with h1 h2
        exact ⟨h1, h2⟩
      refine wpAny_bind (wpAny_dictEntries hoo' hdo' ?_)
      rw [Array.getElem?_eq_getElem hlt]
      obtain ⟨kv, hkv⟩ : ∃ kv, more[x]? = some kv := ⟨more[x]'(by rw [hlen]; exact hlt), List.getElem?_eq_getElem _⟩
      obtain ⟨k, v⟩ := kv
      obtain ⟨hkey, hval⟩ := hpo.get? (e := eso[x]) (by simp [hlt]) hkv
      obtain ⟨k', hkey', hhash⟩ := hko eso[x] (Array.getElem_mem hlt)
      obtain rfl : k' = k := knd.inj _ _ _ hkey' hkey
      show wpAny _ _ (holding [eso[x].key, eso[x].val] (dictPut d eso[x].hash eso[x].key eso[x].val) >>= _) _ _ _
      rw [hhash, hval]
      have hmx : (merged kvs (more.take x)).length ≤ sizeLine := by
        have e1 := merged_length_le kvs (more.take x)
        have e2 : (more.take x).length ≤ more.length := by rw [List.length_take]; omega
        omega
      refine wpAny_bind (wpAny_holding (wpAny_dictPut_pairs (hsz := hmx) hkey hd' fun h'' hd'' hs'' => ?_))
      have hoo'' : h''.get? o = some oo := (hs''.2 o (Ne.symm hdo)).trans hoo'
      refine wpAny_bind (wpAny_dictEpoch hoo'' hdo' ?_)
      rw [if_neg (by simp)]
      exact wpAny_pure ⟨h'', x + 1, rfl, hrest, hlt, by rw [merged_take_succ kvs more x (k', v) hkv]; exact hd'', hoo'', hs'.trans hs''⟩
    · rintro b s' ⟨h', i, rfl, hr, hi, hd', hoo', hs'⟩
      have hin : i = eso.size := by
        rcases Nat.lt_or_ge i eso.size with h | h
        · have e : eso.size - i = (eso.size - (i + 1)) + 1 := by omega
          rw [e, List.range'_succ] at hr; exact nomatch hr
        · exact Nat.le_antisymm hi h
      refine wpAny_pure (hQ h' ?_ ⟨oo, eso, epo, hoo', hco, hdo', hko, hpo, hno⟩ hs')
      rw [hin, ← hlen, List.take_length] at hd'; exact hd'
  split
  · refine wpAny_bind (wpAny_dictEntries hoo hdo' ?_)
    refine wpAny_bind ?_
    refine MeetsSeq2.wpAny_forIn_array _ (fun rest _ s' => s' = s ∧ ∀ e ∈ rest, ∃ k, knd.is k e.key = true) _ ?_ ?_ _ _ ⟨rfl, fun e he => ?_⟩
    · rintro e rest b s' ⟨rfl, he⟩
      obtain ⟨k, hk⟩ := he e List.mem_cons_self
      split
      · rename_i a ha
        rw [ha, href] at hk
        cases hk
      · exact wpAny_pure ⟨rfl, fun e' h' => he e' (List.mem_cons_of_mem _ h')⟩
    · rintro b s' ⟨rfl, _⟩
      exact loop
    · obtain ⟨k, hk, _⟩ := hko e (by simpa using he)
      exact ⟨k, hk⟩
  · exact loop
end
end PySem
namespace L2
open PySem PySem.Spec PyProof.Rows
def tDMrg (td tk tv : TE) : TE := fun σ H Q => ∀ p, H p = none → td σ (upd H p (.dK [])) fun x H1 => ∃ a kvs, x = .ref a ∧ a ≠ p ∧ Rd H1 a (.dK kvs) ∧ H1 p = some (.dK []) ∧ kvs.length < 1000 ∧
  ∀ q, upd H1 p (.dK (mergeK [] kvs)) q = none → tk σ (upd (upd H1 p (.dK (mergeK [] kvs))) q (.dK [])) fun y H3 => tv σ H3 fun z H4 => ∃ k, y = kV k ∧ q ≠ p ∧ H4 q = some (.dK []) ∧ H4 p = some (.dK (mergeK [] kvs)) ∧
  Q (.ref p) (upd (upd H4 q (.dK [(k, z)])) p (.dK (putK (mergeK [] kvs) k z)))
theorem mix_ref {P : Program} {w : World} (k : Key) (a : Addr) : (mixKind P w).is k (.ref a) = false := by cases k <;> rfl
section
variable {X : Cx} {ox kx vx : Expr} {td tk tv : TE} {pos : Pos}
theorem pe_dmrg (ho : PE X ox td) (hk : PE X kx tk) (hv : PE X vx tv) : PE X (.Dict [none, some kx] [ox, vx] pos) (tDMrg td tk tv) := by
  refine ⟨fun pins s σ H Q I h => ?_⟩
  rw [arm_eval_Dict]
  refine wpAny_bind (wpAny_standAt ?_)
  show wpAny _ _ (dictDisplay [(none, do let x ← eval ox X.env; standAt pos; pure x), (some (eval kx X.env), do let x ← eval vx X.env; standAt pos; pure x)]) _ _ _
  unfold dictDisplay
  dsimp only
  simp only [List.forIn_cons, List.forIn_nil, List.isEmpty_nil, if_true, pure_bind, bind_assoc, List.nil_append, List.length_singleton, Nat.reduceBEq, Bool.false_eq_true, if_false, List.isEmpty_cons]
  have hp := I.hok.fresh (Nat.le_refl s.heap.objs.size)
  have I0 := I.laid (a := s.heap.objs.size) (o := .dK []) (h' := s.heap.push { cls := .type "dict", data := .dict #[] }) (t' := s.toks) (fun _ _ q => Heap.get?_push_of_some _ q) (Nat.le_refl _) (dk_empty s.heap I.big)
  refine wpAny_bind (wpAny_alloc ?_)
  refine wpAny_bind (wpAny_holding (wpAny_bind (thn (ho.run pins _ σ _ _ I0 (h _ hp)) fun u s1 h1 => ?_)))
  obtain ⟨x, H1, I1, r1, a, kvs, rfl, hap, ha, hp1, hl, h1⟩ := h1
  cases (show u = Value.ref a from r1)
  refine wpAny_bind (wpAny_standAt (wpAny_pure ?_))
  generalize hpe : s.heap.objs.size = p at *
  obtain ⟨_, hsp, vs0, r0, dp⟩ := dk_of I1.hok hp1
  cases r0
  obtain ⟨_, hsa, rs, rk, da⟩ := dk_rd I1.hok ha
  have hrl : rs.length < 1000 := by rw [← rk.length]; exact hl
  have szl : 2000 ≤ sizeLine := by rw [sizeLine_eq]; decide
  refine wpAny_bind (wpAny_onRaise (wpAny_tryCatch (wpAny_onRaise (wpAny_holding (wpAny_mergeMapping (knd := mixKind X.prog X.w) (Ne.symm hap) hsa mix_ref dp da (fun h' dp' _ hs => ?_) (by rw [List.length_nil]; omega))))))
  have hz2 : (mergeK [] kvs).length ≤ 1000 := by
    have h1 := length_mergeK kvs []
    rw [List.length_nil] at h1
    omega
  have I2 : Inv X pins σ (upd H1 p (.dK (mergeK [] kvs))) { s1 with heap := h' } := d_write I1 (by rw [hp1]; exact True.intro) hs (let ⟨q, _, _, hq, _⟩ := dp'; ⟨q, hq⟩) (dk_new (by omega) hsp (rk.merge .nil) dp')
  have hq := I2.hok.fresh (Nat.le_refl h'.objs.size)
  have I3 := I2.laid (a := h'.objs.size) (o := .dK []) (h' := h'.push { cls := .type "dict", data := .dict #[] }) (t' := s1.toks) (fun _ _ q => Heap.get?_push_of_some _ q) (Nat.le_refl _) (dk_empty h' I2.big)
  have h2 := h1 h'.objs.size hq
  refine wpAny_bind (wpAny_holding (wpAny_subDict (knd := mixKind X.prog X.w) (by show 1 ≤ 15; decide) (evalPairs_cons ?_)))
  refine thn (hk.run pins _ σ _ _ I3 h2) fun uk s3 h3 => ?_
  obtain ⟨y, H3, I3', r3, h3⟩ := h3
  refine wpAny_bind (thn (hv.run pins _ σ _ _ I3' h3) fun uz s4 h4 => ?_)
  obtain ⟨z, H4, I4, r4, k, rfl, hqp, hq4, hp4, h5⟩ := h4
  refine wpAny_bind (wpAny_standAt (wpAny_pure (evalPairs_nil ?_)))
  obtain ⟨_, hsq, vs1, r5, dq⟩ := dk_of I4.hok hq4
  cases r5
  refine ⟨[(k, uz)], ⟨kV_is r3, rfl, True.intro⟩, dq, fun h5' dq' hs5 => ?_⟩
  have rz : KV [(k, z)] [(k, uz)] := .cons ⟨rfl, r4⟩ .nil
  have I5 : Inv X pins σ (upd H4 h'.objs.size (.dK [(k, z)])) { s4 with heap := h5' } := d_write I4 (by rw [hq4]; exact True.intro) hs5 (let ⟨q, _, _, hq, _⟩ := dq'; ⟨q, hq⟩) (dk_new (by rw [List.length_singleton]; omega) hsq rz (by simpa [merged, stored] using dq'))
  have hp5 : upd H4 h'.objs.size (.dK [(k, z)]) p = some (.dK (mergeK [] kvs)) := by rw [upd_ne (Ne.symm hqp)]; exact hp4
  have I6 := I5.tok (s4.toks + 1)
  obtain ⟨_, _, rs2, rk2, dp2⟩ := dk_of I6.hok hp5
  obtain ⟨_, _, rs3, rk3, dq2⟩ := dk_of I6.hok (a := h'.objs.size) (kvs := [(k, z)]) upd_same
  have hr2 : rs2.length ≤ 1000 := by rw [← rk2.length]; exact hz2
  have hr3 : rs3.length = 1 := by rw [← rk3.length]; rfl
  refine wpAny_bind (wpAny_onRaise (wpAny_holding (wpAny_mergeMapping (knd := mixKind X.prog X.w) (Ne.symm hqp) hsq mix_ref dp2 dq2 (fun h6 dp6 _ hs6 => ?_) (by omega))))
  have hz3 : (mergeK (mergeK [] kvs) [(k, z)]).length ≤ 1001 := by
    have h1 := length_mergeK [(k, z)] (mergeK [] kvs)
    rw [List.length_singleton] at h1
    omega
  have I7 := d_write (ob := .dK (putK (mergeK [] kvs) k z)) (t' := s4.toks + 1) I6 (by rw [hp5]; exact True.intro) hs6 (let ⟨q, _, _, hq, _⟩ := dp6; ⟨q, hq⟩) (dk_new (by have : (putK (mergeK [] kvs) k z).length ≤ 1001 := hz3; omega) hsp (rk3.merge rk2) dp6)
  exact wpAny_pure ⟨.ref p, _, I7, rfl, h5⟩
end
end L2
namespace Bk
open PySem L2
def dputK (ks : List PySem.Str) (x : PySem.Str) : List PySem.Str := if x ∈ ks then ks else ks ++ [x]
def dputD {α : Type} (ks : List PySem.Str) (as : List α) (x : PySem.Str) (a : α) : List α := if x ∈ ks then (ks.zip as).map fun p => if p.1 = x then a else p.2 else as ++ [a]
theorem kvz_any {x : PySem.Str} : ∀ {ks : List PySem.Str} {vs : List V}, ks.length = vs.length → ((kvz ks vs).any fun kv => decide (kv.1 = Sum.inr x)) = decide (x ∈ ks)
  | [], [], _ => rfl
  | [], _ :: _, h => by cases h
  | _ :: _, [], h => by cases h
  | k :: ks, v :: vs, h => by
    show (decide ((Sum.inr k : Key) = Sum.inr x) || (kvz ks vs).any _) = _
    rw [kvz_any (Nat.succ.inj h)]
    by_cases e : k = x
    · subst e
      simp
    · have e2 : ¬ x = k := fun z => e z.symm
      simp [e, e2]
theorem kvz_rep {x : PySem.Str} {v : V} : ∀ {ks : List PySem.Str} {vs : List V}, ks.length = vs.length → ((kvz ks vs).map fun kv => if kv.1 = Sum.inr x then (kv.1, v) else kv) = kvz ks ((ks.zip vs).map fun p => if p.1 = x then v else p.2)
  | [], [], _ => rfl
  | [], _ :: _, h => by cases h
  | _ :: _, [], h => by cases h
  | k :: ks, u :: vs, h => by
    have ih := kvz_rep (x := x) (v := v) (Nat.succ.inj h)
    show (if (Sum.inr k : Key) = Sum.inr x then ((Sum.inr k : Key), v) else (Sum.inr k, u)) :: (kvz ks vs).map _ = (Sum.inr k, if k = x then v else u) :: kvz ks _
    rw [ih]
    by_cases e : k = x
    · rw [if_pos (by rw [e]), if_pos e]
      rfl
    · rw [if_neg (fun z => e (Sum.inr.inj z)), if_neg e]
      rfl
theorem kvz_put {ks : List PySem.Str} {vs : List V} {x : PySem.Str} {v : V} (h : ks.length = vs.length) : putK (kvz ks vs) (.inr x) v = kvz (dputK ks x) (dputD ks vs x v) := by
  unfold putK dputK dputD
  rw [kvz_any h]
  by_cases e : x ∈ ks
  · rw [if_pos (by simpa using e), if_pos e, if_pos e]
    exact kvz_rep h
  · rw [if_neg (by simpa using e), if_neg e, if_neg e]
    show kvz ks vs ++ [(Sum.inr x, v)] = ((ks ++ [x]).map Sum.inr).zip (vs ++ [v])
    rw [List.map_append, List.zip_append (by rw [List.length_map]; exact h)]
    rfl
theorem dput_len {α : Type} {ks : List PySem.Str} {as : List α} {x : PySem.Str} {a : α} (h : ks.length = as.length) : (dputK ks x).length = (dputD ks as x a).length := by
  unfold dputK dputD
  split
  · rw [List.length_map, List.length_zip, h, Nat.min_self]
  · rw [List.length_append, List.length_append, h]
    rfl
section
variable {K : PySem.W.Frag}
theorem drs_put {H : Hp} {x : PySem.Str} {v : V} {d : D} (hd : DR K H v d) : ∀ {ks : List PySem.Str} {vs : List V} {ds : List D}, DRs K H vs ds → DRs K H ((ks.zip vs).map fun p => if p.1 = x then v else p.2) ((ks.zip ds).map fun p => if p.1 = x then d else p.2)
  | [], _, _, _ => .nil
  | _ :: _, _, _, .nil => .nil
  | k :: ks, _, _, .cons h hs => by
    refine .cons ?_ (drs_put hd (ks := ks) hs)
    show DR K H (if k = x then v else _) (if k = x then d else _)
    split
    · exact hd
    · exact h
theorem DRs.snoc {H : Hp} {v : V} {d : D} (hd : DR K H v d) : ∀ {vs : List V} {ds : List D}, DRs K H vs ds → DRs K H (vs ++ [v]) (ds ++ [d])
  | _, _, .nil => .cons hd .nil
  | _, _, .cons h hs => .cons h (DRs.snoc hd hs)
/-- {} -/
def xdnew : M R := fun G => some (.im (.dic [] []), G)
theorem gk_dnew : GOk K tDNewK xdnew := fun Fz ba G σ H Hs res G' q e Q k => by
  cases e
  intro p hp
  have hfp : Fz p = none := by
    cases z : Fz p with
    | none => rfl
    | some o =>
      obtain ⟨z1, _⟩ := q.fz p o z
      rw [hp] at z1
      cases z1
  have q3 := q.hide (o := .dK []) hp
  obtain ⟨hp2, hsp2⟩ := q3.fz p (.dK []) upd_same
  have q5 := (q3.unhide hfp).froze (p := p) (o := .dK []) upd_same hsp2 hfp fun i en g m z => by
    obtain ⟨m', w⟩ : ∃ m', en.mu = some m' := by
      cases w : en.mu with
      | none => exact absurd w m
      | some m' => exact ⟨m', rfl⟩
    obtain ⟨l, o, a1, a2, a3, a4, a5⟩ := q3.mu i en m' g w
    rw [z] at a1
    cases a1
    rw [upd_same] at a4
    cases a4
  exact k _ _ _ q5.1 q5.2 (.dic (ks := []) (vs := []) (.inl upd_same) .nil rfl)
/-- {**d, k: v} -/
def xdmrg (o k v : M R) : M R := fun G => bd (o G) fun x G1 => bd (k G1) fun y G2 => bd (v G2) fun z G3 => match x.d, y.d with
  | .dic ks ds, .str s => if ks.Nodup ∧ ks.length < 1000 then some (.im (.dic (dputK ks s) (dputD ks ds s z.d)), G3) else none
  | _, _ => none
theorem gk_dmrg {td tk tv : TE} {o k v : M R} (ho : GOk K td o) (hk : GOk K tk k) (hv : GOk K tv v) : GOk K (tDMrg td tk tv) (xdmrg o k v) := fun Fz ba G σ H Hs res G' q e Q kk => by
  obtain ⟨x, G1, e1, e⟩ := bd_inv e
  obtain ⟨y, G2, e2, e⟩ := bd_inv e
  obtain ⟨z, G3, e3, e⟩ := bd_inv e
  split at e
  case h_2 => cases e
  rename_i ks ds s hx hy
  split at e
  case isFalse => cases e
  rename_i hn
  cases e
  have frz : ∀ {p : Addr} {H : Hp} {Fz : Hp} {G : Gam} {σ : L2.St} {Hs : Hp}, Rel K Fz ba G σ H Hs → H p = none → Fz p = none := fun {p H Fz G σ Hs} q hp => by
    cases z : Fz p with
    | none => rfl
    | some o =>
      obtain ⟨z1, _⟩ := q.fz p o z
      rw [hp] at z1
      cases z1
  intro p hp
  have hfp : Fz p = none := frz q hp
  have q0 := q.hide (o := .dK []) hp
  refine ho.im q0 e1 fun v1 H1 Hs1 q1 s1 d1 => ?_
  rw [hx] at d1
  obtain ⟨a, vs, rfl, ha, hvs, hl⟩ := dr_dic d1
  obtain ⟨hp1, hsp1⟩ := q1.fz p (.dK []) upd_same
  have hap : a ≠ p := fun z => by rcases ha with ha | ⟨o9, ha⟩ <;> rw [z, hsp1] at ha <;> cases ha
  have hm : mergeK [] (kvz ks vs) = kvz ks vs := mergeK_nd (by rw [List.nil_append, kvz_keys hl]; exact nd_inr hn.1)
  refine ⟨a, kvz ks vs, rfl, hap, same_rd q1.sub ha, hp1, ?_, fun r hr => ?_⟩
  · rw [List.length_zip, List.length_map]
    exact Nat.lt_of_le_of_lt (Nat.min_le_left _ _) hn.2
  rw [hm] at hr ⊢
  have q1' : Rel K (upd Fz p (.dK (kvz ks vs))) ba G1 σ (upd H1 p (.dK (kvz ks vs))) Hs1 := q1.rehide
  have hrp : r ≠ p := fun z => by rw [z, upd_same] at hr; cases hr
  have hfr := frz q1' hr
  have q2 := q1'.hide (o := .dK []) hr
  refine hk.im q2 e2 fun v2 H2 Hs2 q3 s2 d2 => ?_
  refine hv.im q3 e3 fun v3 H3 Hs3 q4 s3 d3 => ?_
  rw [hy] at d2
  cases dr_str d2
  obtain ⟨hr3, hsr3⟩ := q4.fz r (.dK []) upd_same
  obtain ⟨hp3, hsp3⟩ := q4.fz p (.dK (kvz ks vs)) (by rw [upd_ne (Ne.symm hrp), upd_same])
  refine ⟨.inr s, rfl, hrp, hr3, hp3, ?_⟩
  have q5 : Rel K (upd (upd Fz p (.dK (kvz ks vs))) r (.dK [(.inr s, v3)])) ba G' σ (upd H3 r (.dK [(.inr s, v3)])) Hs3 := q4.rehide
  have q6 := q5.unhide hfr
  have q7 : Rel K (upd Fz p (.dK (putK (kvz ks vs) (.inr s) v3))) ba G' σ (upd (upd H3 r (.dK [(.inr s, v3)])) p (.dK (putK (kvz ks vs) (.inr s) v3))) Hs3 := q6.rehide
  have q8 := q7.unhide hfp
  obtain ⟨hp9, hsp9⟩ := q7.fz p _ upd_same
  have q9 := q8.froze (p := p) (o := .dK (putK (kvz ks vs) (.inr s) v3)) upd_same hsp9 hfp fun i en g m z => by
    obtain ⟨m', w⟩ : ∃ m', en.mu = some m' := by
      cases w : en.mu with
      | none => exact absurd w m
      | some m' => exact ⟨m', rfl⟩
    obtain ⟨l, o, a1, a2, a3, a4, a5⟩ := q7.mu i en m' g w
    rw [z] at a1
    cases a1
    rw [upd_same] at a4
    cases a4
  have hvs3 := (hvs.mono (s2.trans s3)).mono q9.2
  have d3' := d3.mono q9.2
  refine kk _ _ _ q9.1 (((s1.trans s2).trans s3).trans q9.2) (.dic (vs := dputD ks vs s v3) (.inl (by show _ = some (HO.dK (kvz (dputK ks s) (dputD ks vs s v3))); rw [← kvz_put hl]; exact upd_same)) ?_ (dput_len hl))
  unfold dputD
  split
  · exact drs_put d3' hvs3
  · exact DRs.snoc d3' hvs3
end
end Bk
namespace L2
open PySem PySem.Spec PyProof.Rows
section
variable {X : Cx} {e : Expr} {te : TE} {z0 y z : Str} {j0 j k : Nat} {c00 c0 c1 ap1 ap2 p1 p2 : Pos}
/-- "z0".join(e).replace("y", "z") -/
theorem pe_joinRepl (he : PE X e te) (hyz : (y == z) = false := by decide) (hs : starEach [e] X.env = [(false, eval e X.env)] := by rfl)
    (hb1 : attributeBase (.Constant (.str z0) j0 c00) "join" X.env (eval (.Constant (.str z0) j0 c00) X.env) = eval (.Constant (.str z0) j0 c00) X.env := by rfl) (hl1 : (ap1.endLine == p1.line) = true := by rfl)
    (hst : starEach [.Constant (.str y) j c0, .Constant (.str z) k c1] X.env = [(false, eval (.Constant (.str y) j c0) X.env), (false, eval (.Constant (.str z) k c1) X.env)] := by rfl)
    (hb2 : attributeBase (.Call (.Attribute (.Constant (.str z0) j0 c00) "join" ap1) [e] [] p1) "replace" X.env (eval (.Call (.Attribute (.Constant (.str z0) j0 c00) "join" ap1) [e] [] p1) X.env) = eval (.Call (.Attribute (.Constant (.str z0) j0 c00) "join" ap1) [e] [] p1) X.env := by rfl) (hl2 : (ap2.endLine == p2.line) = true := by rfl) :
    PE X (.Call (.Attribute (.Call (.Attribute (.Constant (.str z0) j0 c00) "join" ap1) [e] [] p1) "replace" ap2) [.Constant (.str y) j c0, .Constant (.str z) k c1] [] p2)
      (CwR.tReplC (tM1 (fun x xs H Q => ∃ a p, ∃ ys : List Str, x = .str a ∧ xs = [.ref p] ∧ (SqL X.K H p (ys.map V.str) ∨ SqT X.K H p (ys.map V.str)) ∧ (ys.map (·.length)).sum + ys.length * a.length ≤ 16777216 ∧ Q (.str (Txt.join a ys)) H) (tC (.str z0)) te) y z) := by
  refine ⟨fun pins s σ H Q I h => ?_⟩
  refine PySem.Call_method2 hb2 hst hl2 ?_
  refine PySem.Call_method1 hb1 hs hl1 (Calls.Constant_str ?_)
  have I0 := I.tok (s.toks + 1)
  obtain ⟨_, h⟩ := h
  refine ⟨"str", _, F.plainAttrs_str, F.slot_str_join, F.type_str_join, typeIs_str _ _ _, (fun _ e => nomatch e), Calls.callWith_builtin rfl (Calls.evalArgs_plain (Calls.spliced_cons ?_))⟩
  refine wpAny_mono (wpAny_toks_of (n := 1) (show 1 ≤ s.toks + 1 by omega) (he.run pins _ σ H _ I0 h)) (fun u s2 q => ?_) fun _ _ z => z.2
  obtain ⟨hk, w, H2, I2, r2, q2⟩ := q
  refine Calls.spliced_nil (wpAny_mono (wpAny_toks_of hk (mt_join pins s2 σ H2 (.str z0) [w] _ [u] (fun v H1 => ∃ x, v = .str x ∧ x.length + (x.length + 1) * z.length ≤ 16777216 ∧ Q (.str (Txt.replace x y z)) H1) I2 ⟨_, rfl⟩ (.cons r2 .nil) q2)) (fun v s1 q => ?_) fun _ _ z => z.2)
  obtain ⟨hk, v', H1, I1, r1, x, e1, hb, q⟩ := q
  subst e1
  obtain ⟨tx, e2⟩ := r1
  subst e2
  refine ⟨"str", _, PySem.F.plainAttrs_str, PySem.F.slot_str_replace, PySem.F.type_str_replace, typeIs_str _ _ _, (fun _ e => nomatch e), Calls.callWith_builtin rfl (Calls.evalArgs_plain (Calls.spliced_cons ?_))⟩
  refine Calls.Constant_str (Calls.spliced_cons (Calls.Constant_str (Calls.spliced_nil ?_)))
  exact PySem.SC.replace (by show s1.toks ≠ 0; omega) (by show s1.toks + 1 ≠ 0; omega) (by show s1.toks ≠ s1.toks + 1; omega) hyz hb fun t' k => ⟨.str (Txt.replace x y z), H1, I1.tok k, ⟨t', rfl⟩, q⟩
end
end L2
namespace Bk
open PySem L2
section
variable {K : PySem.W.Frag}
/-- x.replace("y", "z") -/
def xrepl (y z : PySem.Str) (a : M R) : M R := fun G => bd (a G) fun x G1 => match x.d with
  | .str s => if s.length + (s.length + 1) * z.length ≤ 16777216 then some (.im (.str (Txt.replace s y z)), G1) else none
  | _ => none
theorem gk_repl {ta : TE} {a : M R} {y z : PySem.Str} (ha : GOk K ta a) : GOk K (CwR.tReplC ta y z) (xrepl y z a) := fun Fz ba G σ H Hs res G' q e Q k => by
  obtain ⟨x, G1, e1, e⟩ := bd_inv e
  split at e
  case h_2 => cases e
  rename_i s hx
  split at e
  case isFalse => cases e
  rename_i hb
  cases e
  refine ha.im q e1 fun v1 H1 Hs1 q1 s1 d1 => ?_
  rw [hx] at d1
  cases dr_str d1
  exact ⟨s, rfl, hb, k _ _ _ q1 s1 (.str _)⟩
theorem kpe_joinRepl {X : Cx} (hK : X.K = K) {e : Expr} {te : TE} {z0 y z : PySem.Str} {j0 j k : Nat} {c00 c0 c1 ap1 ap2 p1 p2 : Pos} (he : PE X e te) (hyz : (y == z) = false := by decide) (hs : starEach [e] X.env = [(false, eval e X.env)] := by rfl)
    (hb1 : attributeBase (.Constant (.str z0) j0 c00) "join" X.env (eval (.Constant (.str z0) j0 c00) X.env) = eval (.Constant (.str z0) j0 c00) X.env := by rfl) (hl1 : (ap1.endLine == p1.line) = true := by rfl)
    (hst : starEach [.Constant (.str y) j c0, .Constant (.str z) k c1] X.env = [(false, eval (.Constant (.str y) j c0) X.env), (false, eval (.Constant (.str z) k c1) X.env)] := by rfl)
    (hb2 : attributeBase (.Call (.Attribute (.Constant (.str z0) j0 c00) "join" ap1) [e] [] p1) "replace" X.env (eval (.Call (.Attribute (.Constant (.str z0) j0 c00) "join" ap1) [e] [] p1) X.env) = eval (.Call (.Attribute (.Constant (.str z0) j0 c00) "join" ap1) [e] [] p1) X.env := by rfl) (hl2 : (ap2.endLine == p2.line) = true := by rfl) :
    PE X (.Call (.Attribute (.Call (.Attribute (.Constant (.str z0) j0 c00) "join" ap1) [e] [] p1) "replace" ap2) [.Constant (.str y) j c0, .Constant (.str z) k c1] [] p2) (CwR.tReplC (tM1 (rJoin K) (tC (.str z0)) te) y z) := hK ▸ pe_joinRepl he hyz hs hb1 hl1 hst hb2 hl2
end
end Bk
namespace Bk
open PySem L2
theorem PSsTnox {X : Cx} {st : List Stmt} {t : TS} (h : PSsT X.nox st t) : PSsT X st t := fun pins s σ H D h0 I hw =>
  wpAny_mono (h pins s σ H D h0 (I.wish _) hw) (fun _ _ q => q.unwish) fun _ _ z => False.elim z
section
variable {P : Program} {w : World} {K : PySem.W.Frag} {mg : PySem.Str → Option Value} {base : Heap}
/-- data_F for a def that wants a token when it begins -/
theorem data_FT {x qual : PySem.Str} {st : Stmt} {f : Addr} {fd : FuncData} {N ps : List PySem.Str} {k : Nat} {b : MS} (F : Fun K x qual st f fd) (S : FnScope N ps (defScope st)) (hnc : ∀ y ∈ (defScope st).names, y.2 ≠ .cell) (hps : 1 ≤ ps.length)
    (hb : ∀ (cdv : Value) (A : Around) (outer : List Env) (s : Shared) (H : Hp) (E : XK), Room k (A.deeper (PyProof.Rows.envOfC qual (defScope st) s.heap.objs.size f cdv)) →
      ∃ t, PSsT (cxOf CX0 P w K mg base N qual (defScope st) f cdv A outer s H E).nox (defBody st) t ∧ SOk K t b) : FnOk P w K mg base CX0 (k + 1) f fd ps (spF K (runF ps.length N.length b)) := by
  obtain ⟨oc, od, kV, doc, pm, an, cdv, ct, osl, rfl, lk, hcd⟩ := F.ex
  refine fn_ofT lk hcd S hnc hps (fun vs H Q E q => spF_len q) fun A outer s H vs Q E hr q => ?_
  obtain ⟨t, h1, h2⟩ := hb cdv A outer s H E hr
  exact ⟨t, PSsTnox h1, fin_F h2 (scope_le S) q⟩
end
end Bk
namespace Bk
open PySem PySem.Spec PyProof.Rows L2 LamX
def okName (sc : Scope) (p : PySem.Str) : PySem.Str × NameKind → Bool
  | (y, .local) => decide (y = p)
  | (_, .cell) => false
  | (y, .free) => decide (sc.names.lookup y = some .cell) || decide (sc.names.lookup y = some .free)
  | _ => true
structure LamP (sc scope : Scope) (p : PySem.Str) : Prop where
  fn : (scope.kind = .function ∧ scope.isCoroutine = false) ∧ scope.isGenerator = false
  par : scope.names.lookup p = some .local
  all : ∀ z ∈ scope.names, okName sc p z = true
section
variable {sc scope : Scope} {p y : PySem.Str} {k : NameKind}
theorem LamP.ask (L : LamP sc scope p) (h : scope.names.lookup y = some k) : okName sc p (y, k) = true := L.all _ (PySem.mem_of_lookup h)
theorem LamP.mine (L : LamP sc scope p) (h : scope.names.lookup y = some .local) : y = p := of_decide_eq_true (L.ask h)
theorem LamP.noCell (L : LamP sc scope p) (h : scope.names.lookup y = some .cell) : False := Bool.false_ne_true (L.ask h)
theorem LamP.kept (L : LamP sc scope p) (h : okName sc p (y, .free) = true) : sc.names.lookup y = some .cell ∨ sc.names.lookup y = some .free := ((Bool.or_eq_true _ _).mp h).imp of_decide_eq_true of_decide_eq_true
theorem LamP.cells (L : LamP sc scope p) : ∀ z ∈ scope.names, z.2 ≠ .cell := fun z hz e => by
  obtain ⟨y, k⟩ := z
  cases e
  exact Bool.false_ne_true (L.all _ hz)
end
section
variable {X : Cx} {scope : Scope} {p y : PySem.Str} {c : Addr}
/-- a captured name has a cell of the def around -/
theorem LamP.cellOf (L : LamP X.env.scope scope p) (ok : X.Ok) : ∀ z ∈ scope.names, z.2 = .free → ∃ c, X.env.cells.lookup z.1 = some c := fun z hz e => by
  obtain ⟨y, k⟩ := z
  cases e
  exact ok.has y (L.kept (L.all _ hz))
/-- the cells that the lambda keeps -/
abbrev lamK (X : Cx) (scope : Scope) : List (PySem.Str × Addr) := cloFrom X.env.cells scope.names []
theorem LamP.sub (L : LamP X.env.scope scope p) (ok : X.Ok) (h : (lamK X scope).lookup y = some c) : X.env.cells.lookup y = some c := by
  have hm := cloFrom_mem (PySem.mem_of_lookup h)
  cases hm with
  | inl z => cases z
  | inr z =>
    obtain ⟨zf, zc⟩ := z
    have ⟨d, hd⟩ := L.cellOf ok _ zf rfl
    have ec : c = d := zc.trans (by simp only [hd]; rfl)
    exact hd.trans (congrArg some ec.symm)
theorem LamP.look (L : LamP X.env.scope scope p) (h : scope.names.lookup y = some .free) : ∃ c, (lamK X scope).lookup y = some c :=
  mem_lookup (cloFrom_has (acc := []) (PySem.mem_of_lookup h))
end
/-- the context of the lambda's body: the parameter first, then the maker's names -/
def lamCx1 (X : Cx) (p : PySem.Str) (A : Around) (outer : List Env) (s : Shared) (H : Hp) (E : XK) (scope : Scope) (f c' : Addr) : Cx :=
  { lamCx X A outer s H E scope f c' with N := p :: X.N }
section
variable {X : Cx} {pins : List (Addr × Obj)} {σ : L2.St} {H HZ : Hp} {s s1 : Shared}
/-- a cell of the maker at the lambda's call: as when the lambda was made -/
theorem cell_still {c : Addr} {v : Option Value} {h9 : Heap} (I : Inv X pins σ H s) (un : Un (frs X.stack) [] H HZ s.heap s1.heap) (kp : ∀ b o, s1.heap.get? b = some o → h9.get? b = some o) {y : PySem.Str} (hy : X.env.cells.lookup y = some c)
    (h : s.heap.IsCell c v) : h9.IsCell c v := by
  obtain ⟨o, ho, hd⟩ := h
  have ⟨sl, z⟩ := un.any ho (I.freeC y c hy) List.not_mem_nil
  exact ⟨_, kp c _ z, hd⟩
/-- what a captured name shows -/
theorem kept_shows {A : Around} {outer : List Env} {E : XK} {scope : Scope} {p y : PySem.Str} {f c' : Addr} {h9 : Heap} {i : Nat} {w : V} {m : PySem.Str → Option Value} (I : Inv X pins σ H s) (L : LamP X.env.scope scope p) (un : Un (frs X.stack) [] H HZ s.heap s1.heap)
    (kp : ∀ b o, s1.heap.get? b = some o → h9.get? b = some o) (hn : X.N[i]? = some y) (hs : σ[i]? = some (some w)) (hf : scope.names.lookup y = some .free) : ∃ u, L2.RelV w u ∧ Look (lamCx1 X p A outer s1 HZ E scope f c').env h9 m y u := by
  have from_ := L.kept (L.ask hf)
  obtain ⟨_, _, seen⟩ := I.loc
  obtain ⟨u, ru, lk⟩ := seen i y w hn hs (.inr from_)
  obtain ⟨c, hc⟩ := L.look hf
  have hc' := L.sub I.ok hc
  refine ⟨u, ru, .inr ⟨.inr hf, c, hc, ?_⟩⟩
  cases lk with
  | inl z =>
    have zl : X.env.scope.names.lookup y = some .local := z.1
    rw [zl] at from_
    rcases from_ with z | z <;> cases z
  | inr z =>
    obtain ⟨_, d, hd, hcell⟩ := z
    cases hd.symm.trans hc'
    exact cell_still I un kp hc' hcell
theorem lam_begin {A : Around} {outer : List Env} {E : XK} {scope : Scope} {p : PySem.Str} {f c' : Addr} {h9 : Heap} {tk : Nat} {v : V} {u : Value} (I : Inv X pins σ H s) (L : LamP X.env.scope scope p) (hp : p ∉ X.N) (rv : L2.RelV v u)
    (B : Env0 X.prog X.w X.K X.mg X.base A outer s1 HZ) (hd : A.handled = none) (un : Un (frs X.stack) [] H HZ s.heap s1.heap) (hns : h9.Ns s1.heap.objs.size fun y => [(p, u)].reverse.lookup y) (kp : ∀ b o, s1.heap.get? b = some o → h9.get? b = some o) :
    Inv (lamCx1 X p A outer s1 HZ E scope f c') [] (some v :: σ) HZ { s1 with heap := h9, toks := tk } where
  ok := {
    mod := B.mod
    kind := L.fn.1.1
    glob := rfl
    blt := rfl
    above := Nat.le_refl _
    inj := fun y z c h1 h2 => I.ok.inj y z c (L.sub I.ok h1) (L.sub I.ok h2)
    has := fun y h => h.elim (fun z => (L.noCell z).elim) fun z => L.look z
    cab := fun y c z => Bool.noConfusion (show false = true from z)
    hd := fun _ => hd
    frames := Around.frames_deeper B.frames
    stk := .inr ⟨rfl, rfl⟩
    exf := fun b z => nomatch (show b ∈ ([] : List Addr) from z)
    bs := B.bs
    bsz := B.bsz
    noex := fun b o _ z => nomatch (show b ∈ ([] : List Addr) from z)
    exfs := fun b z => nomatch (show b ∈ ([] : List Addr) from z)
    funs := B.funs
    frf := B.frf }
  os := rfl
  bare := B.bare
  base := Un.kept kp
  loc := ⟨_, hns, fun i y w h1 h2 h3 => by
    have h3 : Vis scope y := h3
    match i with
    | 0 =>
      cases Option.some.inj (show some p = some y from h1)
      cases Option.some.inj (Option.some.inj (show some (some v) = some (some w) from h2))
      exact ⟨u, rv, .inl ⟨L.par, by
        show List.lookup p [(p, u)] = some u
        rw [List.lookup_cons, beq_self_eq_true]⟩⟩
    | i + 1 =>
      have hn : X.N[i]? = some y := h1
      rcases h3 with z | z | z
      · rw [L.mine z] at hn
        exact (hp (List.mem_of_getElem? hn)).elim
      · exact (L.noCell z).elim
      · exact kept_shows I L un kp hn h2 z⟩
  cell := fun y c h => (I.cell y c (L.sub I.ok h)).imp fun w hw => cell_still I un kp (L.sub I.ok h) hw
  free := B.hok.fresh (Nat.le_refl _)
  freeC := fun y c h => by
    obtain ⟨w, o, ho, _⟩ := I.cell y c (L.sub I.ok h)
    exact un.free c o ho (I.freeC y c (L.sub I.ok h)) List.not_mem_nil
  pin := fun q hq => nomatch (show q ∈ ([] : List (Addr × Obj)) from hq)
  hok := B.hok.kept kp
  len := congrArg Nat.succ I.len
/-- all but the table stays -/
def ExtP (P : Addr) (H H' : Hp) : Prop := ∀ b o, b ≠ P → H b = some o → H' b = some o
abbrev lamO (X : Cx) (params : Arguments) (body : Expr) (scope : Scope) (pm : Value) (c' : Addr) (ctv : Value) : Obj := PySem.W.kla_obj "<lambda>" (X.env.qual ++ "<lambda>") params body scope (lamK X scope) pm c' ctv
abbrev lamQ (X : Cx) : PySem.Str := X.env.qual ++ "<lambda>"
/-- no frame stands at an address of the future -/
theorem no_frame (I : Inv X pins σ H s) {f : Addr} (hf : s.heap.objs.size ≤ f) : f ∉ frs X.stack := fun z => (List.mem_cons.mp (I.stkSub f z)).elim (fun e => Nat.lt_irrefl _ (Nat.lt_of_lt_of_le (e ▸ I.lt) hf)) (I.nofs hf)
theorem lam_made {c P : Addr} {params : Arguments} {body : Expr} {scope : Scope} {pos : Pos} {E Q : Value → Shared → Prop} (I : Inv X pins σ H s) (TB : TabB X.base X.mg c P) (hcode : X.env.code = .ref c) (hT : TabS H P (lamQ X)) (hdef : defaultsOf params X.env = ([], []))
    (hfree : ∀ z ∈ scope.names, z.2 = .free → ∃ c, X.env.cells.lookup z.1 = some c)
    (go : ∀ (f c' : Addr) (pm ctv : Value) (H1 : Hp) (s' : Shared), Inv X pins σ H1 s' → ExtP P H H1 → TabS H1 P (lamQ X) → s'.heap.get? f = some (lamO X params body scope pm c' ctv) → H1 f = none → f ∉ frs X.stack → H1 c' = some (CodeO c' (lamQ X)) → Q (.ref f) s') :
    wpAny (model X.prog X.w) X.A (eval (.Lambda params body scope pos) X.env) Q E s := by
  obtain ⟨ps, atP, three, told⟩ := hT
  have inHeap : s.heap.get? P = some (PySem.W.tabObj ps) := I.hok P _ atP
  have gl := I.mod.glob.keeps I.bk
  have cd := TB.code.keeps I.bk
  have bm := TB.bm.keeps I.bk
  apply PySem.W.kla_eval hdef
  match am : codeAmong pos ps.toList with
  | some cv =>
    obtain ⟨c', rfl, isC⟩ := told pos cv am
    apply PySem.W.kla_makeFunctionHit (closure_ok hfree) I.ok.glob gl hcode cd inHeap three am bm
    intro ctv h9 tk grown bigger
    have J : Inv X pins σ H { s with heap := h9.push (lamO X params body scope ((X.mg "__name__").getD .none) c' ctv), toks := tk } := I.kept fun b o e => Heap.get?_push_of_some _ (grown b o e)
    exact go _ c' _ ctv H _ J (fun _ _ _ e => e) ⟨ps, atP, three, told⟩ (Heap.get?_push_size _ rfl) (I.hok.fresh bigger) (no_frame I bigger) isC
  | none =>
    apply PySem.W.kla_makeFunction (closure_ok hfree) I.ok.glob gl hcode cd inHeap three am TB.gP bm
    rintro c' ctv h9 tk but geC ltC ⟨_, oc, vs, t, ⟨⟩, hoc, hdc, hvc⟩ tab
    have newC : H c' = none := I.hok.fresh geC
    have big : s.heap.objs.size ≤ h9.objs.size := Nat.le_trans geC (Nat.le_of_lt ltC)
    have J := inv_table (t' := tk) (h' := h9.push (lamO X params body scope ((X.mg "__name__").getD .none) c' ctv)) I atP (fun b o hb e => Heap.get?_push_of_some _ (but b o hb e)) (Heap.get?_push_of_some _ tab) geC ⟨oc, vs, t, Heap.get?_push_of_some _ hoc, hdc, hvc⟩
    have stay : ExtP P H (upd (upd H P (.tbl (ps ++ #[rawInt pos.line, rawInt pos.col, .ref c']))) c' (CodeO c' (lamQ X))) := fun b o nb e => (upd_ne (ne_of_none e newC)).trans ((upd_ne nb).trans e)
    have nePC : P ≠ c' := ne_of_none atP newC
    refine go _ c' _ ctv _ _ J stay ⟨_, (upd_ne nePC).trans upd_same, ?_, fun p9 cv hcv => ?_⟩ (Heap.get?_push_size _ rfl) ?_ (no_frame I big) upd_same
    · rw [Array.toList_append]
      exact PySem.TriplesOk_snoc _ _ _ _ three
    · rw [Array.toList_append] at hcv
      cases among_app _ three hcv with
      | inl z =>
        obtain ⟨d, rfl, hd⟩ := told p9 cv z
        refine ⟨d, rfl, stay d _ (fun e => ?_) hd⟩
        rw [e, atP] at hd
        exact codeO_ne ps (Option.some.inj hd).symm
      | inr z => exact ⟨c', z, upd_same⟩
    · rw [upd_ne (Nat.ne_of_gt ltC), upd_ne (Nat.ne_of_gt (Nat.lt_of_lt_of_le (Heap.lt_size inHeap) big))]
      exact I.hok.fresh big
section
variable {params : Arguments} {body : Expr} {scope : Scope} {p : PySem.Str} {f c' : Addr} {pm ctv : Value} {tb : TE} {k : Nat} {E : XK}
/-- the lambda at f is called with one value, some frames later -/
theorem lam_call {A : Around} {outer : List Env} {Q : VK} {v : V} {u : Value} (I : Inv X pins σ H s) (L : LamP X.env.scope scope p) (hp : p ∉ X.N) (rv : L2.RelV v u) (at1 : s1.heap.get? f = some (lamO X params body scope pm c' ctv))
    (un : Un (frs X.stack) [] H HZ s.heap s1.heap) (B : Env0 X.prog X.w X.K X.mg X.base A outer s1 HZ) (nl : s1.heap.NoLimit) (isC : HZ c' = some (CodeO c' (lamQ X))) (hbind : ∀ u : Value, bindArgs (PySem.W.kla_fn "<lambda>" (lamQ X) params body scope (lamK X scope) pm (.ref c') ctv) ⟨[u], []⟩ = pure [(p, u)])
    (hr : Room (k + 1) A) (hbody : ∀ (A : Around) (outer : List Env) (s : Shared) (H : Hp), Room k (A.deeper (lamEnv X scope s.heap.objs.size f c')) → PE (lamCx1 X p A outer s H E scope f c') body tb) (ht : tb (some v :: σ) HZ Q) :
    codeAny (model X.prog X.w) A (.call (.ref f) ⟨[u], []⟩) (CR (L2.CX X.prog X.w) outer X.prog X.w HZ s1 Q E) s1 := by
  obtain ⟨⟨oc, vs, t, hoc, hdc, hvc⟩, _⟩ := B.hok c' _ isC
  apply PySem.W.kla_callFunE hr.depth at1 rfl L.fn.1.2 L.fn.2 rfl ⟨c', oc, vs, t, rfl, hoc, hdc, hvc⟩
  rw [hbind]
  apply wpAny_pure
  refine wpAny_newFunctionEnv L.cells (fun z hz => ?_) (fun h9 hns same => ⟨nl.fresh _ same, ?_⟩) L.fn.1.1
  · rw [List.mem_singleton.mp hz]
    exact L.par
  · have kp : ∀ b o, s1.heap.get? b = some o → h9.get? b = some o := fun b o e => same.extBut b o (Nat.ne_of_lt (Heap.lt_size e)) (Heap.get?_push_of_some _ e)
    apply PySem.W.kla_codeExpr
    refine wpAny_mono ((hbody A outer s1 HZ (hr.deeper _)).run [] _ _ HZ Q (lam_begin I L hp rv B hr.hd un hns kp) ht) (fun w s' done => ?_) fun _ _ z => z
    obtain ⟨w', H', J, rw', q⟩ := done
    exact ⟨w', H', J.os, J.bare, J.base, J.hok, rw', q⟩
/-- the context of a def that X calls at s -/
abbrev inCx (X : Cx) (CXg : CXT) (Eg : XK) (Ng : List PySem.Str) (qg : PySem.Str) (sg : Scope) (g : Addr) (cdg : Value) (s : Shared) (H : Hp) (xe : Value → Shared → Prop) : Cx := (cxOf CXg X.prog X.w X.K X.mg X.base Ng qg sg g cdg X.A X.stack s H Eg).wish xe
/-- x(y), in the def that got the lambda in x: that def's context, entered at s -/
theorem pe_act1 {CXg : CXT} {Eg : XK} {Ng : List PySem.Str} {qg : PySem.Str} {sg : Scope} {g : Addr} {cdg : Value} {i j : Nat} {a y : PySem.Str} {xe : Value → Shared → Prop} {p1 p2 p3 : Pos}
    (I : Inv X pins σ H s) (L : LamP X.env.scope scope p) (hp : p ∉ X.N) (hf : s.heap.get? f = some (lamO X params body scope pm c' ctv)) (hfn : H f = none) (hfr : f ∉ frs X.stack)
    (hbind : ∀ u : Value, bindArgs (PySem.W.kla_fn "<lambda>" (lamQ X) params body scope (lamK X scope) pm (.ref c') ctv) ⟨[u], []⟩ = pure [(p, u)])
    (hx : Passes (L2.CX X.prog X.w) (inCx X CXg Eg Ng qg sg g cdg s H xe) E) (hr : Room (k + 1) (X.A.deeper (envOfC qg sg s.heap.objs.size g cdg)))
    (hbody : ∀ (A : Around) (outer : List Env) (s : Shared) (H : Hp), Room k (A.deeper (lamEnv X scope s.heap.objs.size f c')) → PE (lamCx1 X p A outer s H E scope f c') body tb)
    (na : PE (inCx X CXg Eg Ng qg sg g cdg s H xe) (.Name a p1) (tVar i)) (ny : PE (inCx X CXg Eg Ng qg sg g cdg s H xe) (.Name y p3) (tVar j)) :
    PE (inCx X CXg Eg Ng qg sg g cdg s H xe) (.Call (.Name a p1) [.Name y p3] [] p2)
      (fun σZ HZ Q => σZ[i]? = some (some (.ref f)) ∧ HZ c' = some (CodeO c' (lamQ X)) ∧ ∃ v, σZ[j]? = some (some v) ∧ tb (some v :: σ) HZ Q) where
  run := fun pz sz σz Hz Q Iz ⟨hi, hc, v, hj, ht⟩ => by
    apply wpAny_Call_Name_kw
    refine thn (na.run pz sz σz Hz (fun w H1 => w = .ref f ∧ H1 = Hz) Iz ⟨_, hi, rfl, rfl⟩) fun uf sa ⟨_, _, Ia, rf, ef, eH⟩ => ?_
    subst ef eH
    cases (show uf = Value.ref f from rf)
    have still : ∀ {s9 : Shared} {H9 : Hp} {σ9 : L2.St}, Inv (inCx X CXg Eg Ng qg sg g cdg s H xe) pz σ9 H9 s9 → s9.heap.get? f = some (lamO X params body scope pm c' ctv) := fun J => J.base.keep f _ hf hfn hfr List.not_mem_nil
    apply PySem.W.callWith_F ⟨_, _, _, _, still Ia⟩
    refine thn ((pa_cons ny pa_nil).run p2 pz sa σz _ (fun ws H2 => ws = [v] ∧ H2 = _) Ia ⟨v, hj, rfl, rfl⟩) fun us sb ⟨_, _, Ib, ru, ew, eH⟩ => ?_
    subst ew eH
    obtain ⟨u, rfl, rv⟩ := ru.one
    have rc : codeAny (model X.prog X.w) (X.A.deeper (envOfC qg sg s.heap.objs.size g cdg)) (.call (.ref f) ⟨[u], []⟩) (CR (L2.CX X.prog X.w) (envOfC qg sg s.heap.objs.size g cdg :: X.stack) X.prog X.w _ sb Q E) sb :=
      lam_call (X := X) I L hp rv (still Ib) Ib.base Ib.env0 Ib.nolimit hc hbind hr hbody ht
    refine ⟨⟨_, _, _, _, still Ib⟩, wpAny_call (codeAny_mono rc fun r s' hq => ?_)⟩
    match r, hq with
    | .error e, hq => exact hx pz σz _ sb e s' Ib hq
    | .ok (.ret w), hq => exact Ib.after hq
    | .ok .next, hq => exact hq.elim
    | .ok .brk, hq => exact hq.elim
    | .ok .cont, hq => exact hq.elim
end
end
def tWith (i : Nat) (C : Addr) (te : TE) (spe spx : Sp) (ts : TS) : TS := fun Dn σ H => te σ H fun b H1 => ∃ a dx fs, b = .ref a ∧ H1 a = some (.ins C dx fs) ∧
  spe [.ref a] H1 (fun v H2 => ts { nx := fun σ3 H3 => spx [.ref a, .non, .non, .non] H3 (fun _ H4 => Dn.nx σ3 H4) E0, rt := fun w H3 => spx [.ref a, .non, .non, .non] H3 (fun _ H4 => Dn.rt w H4) E0, bk := fun σ3 H3 => spx [.ref a, .non, .non, .non] H3 (fun _ H4 => Dn.bk σ3 H4) E0, ct := fun σ3 H3 => spx [.ref a, .non, .non, .non] H3 (fun _ H4 => Dn.ct σ3 H4) E0 } (σ.set i (some v)) H2) E0
section
variable {X : Cx} {ctx : Expr} {y : PySem.Str} {py pos : Pos} {body : List Stmt} {i k : Nat} {te : TE} {ts : TS} {C fe fx : Addr} {fde fdx : FuncData} {spe spx : Sp} {nsE : List PySem.Str} {nsX : List PySem.Str}
theorem ps_with (hxe : X.xe = fun _ _ => False) (hN : X.N.Nodup) (hi : X.N[i]? = some y) (hy : Loc X.env.scope y) (he : PE X ctx te) (cE : PySem.W.findIn X.K (.ref C) "__enter__" = some (some (.ref fe))) (iE : PySem.W.isFn X.K (.ref fe) = true)
    (cX : PySem.W.findIn X.K (.ref C) "__exit__" = some (some (.ref fx))) (iX : PySem.W.isFn X.K (.ref fx) = true) (Fe : FnOk X.prog X.w X.K X.mg X.base CX0 k fe fde nsE spe) (Fx : FnOk X.prog X.w X.K X.mg X.base CX0 k fx fdx nsX spx) (hr : Room k X.A)
    (hbe : Binds X.K fde nsE []) (hbx : Binds X.K fdx nsX []) (hs : PSs X body ts) (fy : X.fn y = true ∨ X.env.scope.names.lookup y = some .local := by first | exact .inl rfl | exact .inr rfl | assumption) :
    PS X (.With [⟨ctx, some (.Name y py)⟩] body pos) (tWith i C te spe spx ts) := by
  refine ⟨fun pins s σ H Dn I h => ?_⟩
  refine PySem.W.kw_execN ?_
  refine thn (he.run pins s σ H _ I h) fun u s1 ⟨b, H1, I1, rb, a, dx, fs, eb, ea, q⟩ => ?_
  subst eb
  obtain rfl : u = Value.ref a := rb
  obtain ⟨od, J⟩ := inst_at I1 ea
  obtain ⟨m, hF⟩ := I1.fr
  rw [hxe]
  refine PySem.W.kw_inN hF I1.ok.mod.kin J cE iE cX iX ?_
  have noE : ∀ {α : Type} {t : Sem α} {Q : α → Shared → Prop} {s : Shared}, wpAny (model X.prog X.w) X.A t Q X.xe s → wpAny (model X.prog X.w) X.A t Q (fun _ _ => False) s := fun h => by
    rw [hxe] at h
    exact h
  refine wpAny_mono (noE (run_fn (us := [.ref a]) (vs := [.ref a]) (dvs := []) (ds := []) Fe hr hbe .nil pass0 I1 (.cons rfl .nil) q)) (fun v s2 ⟨v', H2, I2, rv, q2⟩ => ?_) fun _ _ z => z.elim
  refine store_ok I2 hN hi hy rv (fun s3 I3 => ?_) fy
  have leave : ∀ {σ3 : L2.St} {H3 : Hp} {s4 : Shared} {Q : Hp → Prop} {R : Shared → Prop}, Inv X pins σ3 H3 s4 → spx [.ref a, .non, .non, .non] H3 (fun _ H4 => Q H4) E0 → (∀ H4 s5, Inv X pins σ3 H4 s5 → Q H4 → R s5) →
      wpAny (model X.prog X.w) X.A (call (.ref fx) [.ref a, .none, .none, .none]) (fun _ s5 => R s5) (fun _ _ => False) s4 := fun {σ3 H3 s4 Q R} I4 q4 k => by
    refine wpAny_mono (noE (run_fn (us := [.ref a, .none, .none, .none]) (vs := [.ref a, .non, .non, .non]) (dvs := []) (ds := []) (Q := fun _ H4 => Q H4) Fx hr hbx .nil pass0 I4 (.cons rfl (.cons rfl (.cons rfl (.cons rfl .nil)))) q4)) (fun v s5 ⟨v', H5, I5, rv, q5⟩ => ?_) fun _ _ z => z.elim
    exact k H5 s5 I5 q5
  refine wpAny_mono (noE (hs.run pins s3 _ H2 _ I3 q2)) (fun fl s4 h4 => ?_) fun _ _ z => z.elim
  unfold PySem.W.KwOut
  match fl, h4 with
  | .next, ⟨σ4, H4, I4, q4⟩ => exact leave I4 q4 fun H5 s5 I5 q5 => ⟨σ4, H5, I5, q5⟩
  | .brk, ⟨σ4, H4, I4, q4⟩ => exact leave I4 q4 fun H5 s5 I5 q5 => ⟨σ4, H5, I5, q5⟩
  | .cont, ⟨σ4, H4, I4, q4⟩ => exact leave I4 q4 fun H5 s5 I5 q5 => ⟨σ4, H5, I5, q5⟩
  | .ret u, ⟨w, σ4, H4, I4, rw', q4⟩ => exact leave I4 q4 fun H5 s5 I5 q5 => ⟨w, σ4, H5, I5, rw', q5⟩
end
end Bk
namespace Bk
open PySem PySem.Spec PyProof.Rows L2 LamX
/-- the def `within`, its parts -/
structure WinC (P : Program) (w : World) (K : PySem.W.Frag) (mg : PySem.Str → Option Value) (base : Heap) (LC BC : Addr) (spI spE spX : Sp) where
  g : Addr
  fd : FuncData
  st : Stmt
  F : Fun K "within" "Live.within" st g fd
  m : Meth K LC "within" g
  c : Cls K LC
  S : FnScope ["self", "work", "given"] ["self", "work"] (defScope st)
  body : ∃ p1 p2 p3 p4 p5 p6 p7 p8 p9 : Pos, defBody st = [.With [⟨.Call (.Name "Block" p1) [.Name "self" p2] [] p3, some (.Name "given" p4)⟩] [.Return (some (.Call (.Name "work" p5) [.Name "given" p6] [] p7)) p8] p9]
  bi : Binds K fd ["self", "work"] []
  gl : (defScope st).names.lookup ("Block" : PySem.Str) = some .globalImplicit
  v0 : (defScope st).names.lookup ("self" : PySem.Str) = some .local
  v1 : (defScope st).names.lookup ("work" : PySem.Str) = some .local
  v2 : (defScope st).names.lookup ("given" : PySem.Str) = some .local
  mgB : mg "Block" = some (.ref BC)
  fi : Addr
  fe : Addr
  fx : Addr
  fdi : FuncData
  fde : FuncData
  fdx : FuncData
  M : Mk K BC fi
  Fi : FnOk P w K mg base CX0 1 fi fdi ["self", "live"] spI
  Fe : FnOk P w K mg base CX0 1 fe fde ["self"] spE
  Fx : FnOk P w K mg base CX0 1 fx fdx ["self", "kind", "value", "trace"] spX
  bI : Binds K fdi ["self", "live"] []
  bE : Binds K fde ["self"] []
  bX : Binds K fdx ["self", "kind", "value", "trace"] []
  cE : PySem.W.findIn K (.ref BC) "__enter__" = some (some (.ref fe))
  iE : PySem.W.isFn K (.ref fe) = true
  cX : PySem.W.findIn K (.ref BC) "__exit__" = some (some (.ref fx))
  iX : PySem.W.isFn K (.ref fx) = true
abbrev NW : List PySem.Str := ["self", "work", "given"]
/-- the reading: t is the body's, told of the parameter and the maker's slots -/
def tWithin (P : Addr) (q : PySem.Str) (LC BC : Addr) (spI spE spX : Sp) (te : TE) (t : TE) : TE := fun σ H Q => te σ H fun x H1 => ∃ a dx fs, x = .ref a ∧ H1 a = some (.ins LC dx fs) ∧ fs.lookup ("within" : PySem.Str) = none ∧ TabS H1 P q ∧
  ∀ (f c' : Addr) (H2 : Hp), H2 c' = some (CodeO c' q) → ExtP P H1 H2 → TabS H2 P q →
    tWith 2 BC (tMake BC spI [] E0 (tCons (tVar 0) tNil)) spE spX (tRet fun σZ HZ Q => σZ[1]? = some (some (.ref f)) ∧ HZ c' = some (CodeO c' q) ∧ ∃ v, σZ[2]? = some (some v) ∧ t (some v :: σ) HZ Q) { nx := fun _ H' => Q .non H', rt := Q } (L2.start NW [.ref a, .ref f]) H2
end Bk
namespace Bk
open PySem PySem.Spec PyProof.Rows L2 LamX
/-- what is hidden or shared -/
def uni (Fz Hs : Hp) : Hp := fun b => match Fz b with
  | some o => some o
  | none => Hs b
theorem uni_f {Fz Hs : Hp} {b : Addr} {o : HO} (h : Fz b = some o) : uni Fz Hs b = some o := by
  unfold uni
  rw [h]
theorem uni_s {Fz Hs : Hp} {b : Addr} (h : Fz b = none) : uni Fz Hs b = Hs b := by
  unfold uni
  rw [h]
/-- the table is hidden; each code object that it tells is one of that name -/
structure KT (P : Addr) (q : PySem.Str) (Fz Hs : Hp) : Prop where
  tab : TabS (uni Fz Hs) P q
  at_ : ∃ ps, Fz P = some (.tbl ps)
section
variable {K : PySem.W.Frag} {mg : PySem.Str → Option Value} {P : Addr} {q : PySem.Str}
theorem KT.mono {Fz Hs Hs' : Hp} (h : KT P q Fz Hs) (s : Same Hs Hs') : KT P q Fz Hs' := ⟨h.tab.ext fun b o e => by
  cases z : Fz b with
  | some u => rw [uni_f z] at e ⊢; exact e
  | none => rw [uni_s z] at e ⊢; exact s b o e, h.at_⟩
theorem KT.tabS {Fz Hs H : Hp} {ba : Nat → Addr} {G : Gam} {σ : L2.St} (h : KT P q Fz Hs) (r : Rel K Fz ba G σ H Hs) : TabS H P q := h.tab.ext fun b o e => by
  cases z : Fz b with
  | some u => rw [uni_f z] at e; cases e; exact (r.fz b _ z).1
  | none => rw [uni_s z] at e; exact r.sub b o e
def GOkT (K : PySem.W.Frag) (P : Addr) (q : PySem.Str) (t : TE) (f : M R) : Prop := ∀ Fz ba G σ H Hs r G', KT P q Fz Hs → Rel K Fz ba G σ H Hs → f G = some (r, G') →
  ∀ Q : VK, (∀ v H' Fz' Hs', KT P q Fz' Hs' → Rel K Fz' ba G' σ H' Hs' → Same Hs Hs' → Res K Fz' G' σ H' Hs' v r → Q v H') → t σ H Q
def PostT (K : PySem.W.Frag) (P : Addr) (q : PySem.Str) (ba : Nat → Addr) (G' : Gam) (Hs : Hp) (Dn : Ends) : Fl → Prop
  | .nx => ∀ σ' H' Fz' Hs', KT P q Fz' Hs' → Rel K Fz' ba G' σ' H' Hs' → Same Hs Hs' → Dn.nx σ' H'
  | .bk => ∀ σ' H' Fz' Hs', KT P q Fz' Hs' → Rel K Fz' ba G' σ' H' Hs' → Same Hs Hs' → Dn.bk σ' H'
  | .ct => ∀ σ' H' Fz' Hs', KT P q Fz' Hs' → Rel K Fz' ba G' σ' H' Hs' → Same Hs Hs' → Dn.ct σ' H'
  | .rt r => ∀ v σ' H' Fz' Hs', KT P q Fz' Hs' → Rel K Fz' ba G' σ' H' Hs' → Same Hs Hs' → Res K Fz' G' σ' H' Hs' v r → Dn.rt v H'
theorem PostT.mono {ba : Nat → Addr} {G' : Gam} {Hs Hs1 : Hp} {Dn : Ends} {fl : Fl} (h : PostT K P q ba G' Hs Dn fl) (s : Same Hs Hs1) : PostT K P q ba G' Hs1 Dn fl := by
  cases fl with
  | nx => exact fun σ' H' Fz' Hs' k r q => h σ' H' Fz' Hs' k r (s.trans q)
  | bk => exact fun σ' H' Fz' Hs' k r q => h σ' H' Fz' Hs' k r (s.trans q)
  | ct => exact fun σ' H' Fz' Hs' k r q => h σ' H' Fz' Hs' k r (s.trans q)
  | rt x => exact fun v σ' H' Fz' Hs' k r q => h v σ' H' Fz' Hs' k r (s.trans q)
def SOkT (K : PySem.W.Frag) (P : Addr) (q : PySem.Str) (t : TS) (f : MS) : Prop := ∀ Fz ba G σ H Hs fl G', KT P q Fz Hs → Rel K Fz ba G σ H Hs → f G = some (fl, G') → ∀ Dn : Ends, PostT K P q ba G' Hs Dn fl → t Dn σ H
theorem SOk.toT {t : TS} {f : MS} (h : SOk K t f) : SOkT K P q t f := fun Fz ba G σ H Hs fl G' kt r e Dn p => h Fz ba G σ H Hs fl G' r e Dn (by
  cases fl with
  | nx => exact fun σ' H' Hs' r1 s => p σ' H' Fz Hs' (kt.mono s) r1 s
  | bk => exact fun σ' H' Hs' r1 s => p σ' H' Fz Hs' (kt.mono s) r1 s
  | ct => exact fun σ' H' Hs' r1 s => p σ' H' Fz Hs' (kt.mono s) r1 s
  | rt x => exact fun v σ' H' Hs' r1 s => p v σ' H' Fz Hs' (kt.mono s) r1 s)
theorem sk_seqT {t u : TS} {a b : MS} (ha : SOkT K P q t a) (hb : SOkT K P q u b) : SOkT K P q (tSeq t u) (xseq a b) := fun Fz ba G σ H Hs fl G' kt r e Dn p => by
  unfold xseq at e
  cases h : a G with
  | none => rw [h] at e; cases e
  | some x =>
    obtain ⟨f1, G1⟩ := x
    rw [h] at e
    refine ha Fz ba G σ H Hs f1 G1 kt r h { Dn with nx := u Dn } ?_
    cases f1 with
    | nx => exact fun σ1 H1 Fz1 Hs1 k1 q1 s1 => hb Fz1 ba G1 σ1 H1 Hs1 fl G' k1 q1 e Dn (p.mono s1)
    | bk => cases e; exact p
    | ct => cases e; exact p
    | rt r => cases e; exact p
theorem sk_forT {w : TI} {g : TG} {u : TS} {it : M (List D)} {tg : D → Gam → Option Gam} {js : List Nat} {b : MS} (hi : IOk K w it) (hg : GtOk K g tg js) (hb : SOkT K P q u b) : SOkT K P q (tFor w g u) (xfor it tg b) := fun Fz ba G σ H Hs fl G' kt r e Dn p => by
  obtain ⟨ds, G1, e1, e⟩ := bd_inv e
  refine hi Fz ba G σ H Hs ds G1 r e1 _ fun J H1 Hs1 q1 s1 Y => ?_
  refine ⟨fun i m σ2 H2 => m = ds.length - i ∧ i ≤ ds.length ∧ ∃ G2 Fz2 Hs2, KT P q Fz2 Hs2 ∧ Rel K Fz2 ba G2 σ2 H2 Hs2 ∧ Same Hs1 Hs2 ∧ xforL tg b (ds.drop i) G2 = some (fl, G'), ⟨ds.length, rfl, Nat.zero_le _, G1, Fz, Hs1, kt.mono s1, q1, Same.refl _, e⟩, ?_⟩
  rintro i m σ2 H2 ⟨rfl, hi, G2, Fz2, Hs2, k2, q2, s2, e2⟩
  by_cases hlt : i < ds.length
  · refine .inr ⟨Y.go i H2 (s2.trans q2.sub) hlt, fun σ' H' => i + 1 ≤ ds.length ∧ ∃ G3 Fz3 Hs3, KT P q Fz3 Hs3 ∧ Rel K Fz3 ba G3 σ' H' Hs3 ∧ Same Hs1 Hs3 ∧ xforL tg b (ds.drop (i + 1)) G3 = some (fl, G'), fun σ' H' ⟨z, z2⟩ => ⟨ds.length - (i + 1), by omega, rfl, z, z2⟩, fun x H' y => ?_⟩
    obtain ⟨d, Hs3, d1, ex, dr⟩ := Y.yld i x H2 H' Hs2 hlt s2 q2.sub y
    have q3 := q2.ext ex
    have ed : ds.drop i = d :: ds.drop (i + 1) := by
      rw [List.drop_eq_getElem_cons hlt]
      rw [List.getElem?_eq_getElem hlt] at d1
      cases d1
      rfl
    rw [ed] at e2
    unfold xforL at e2
    cases hG : tg d G2 with
    | none => rw [hG] at e2; cases e2
    | some G3 =>
      rw [hG] at e2
      refine hg.run Fz2 ba G2 σ2 H' Hs3 x d G3 q3 dr hG _ fun σ3 q4 _ _ => ?_
      cases hbG : b G3 with
      | none => simp only [hbG] at e2; cases e2
      | some y =>
        obtain ⟨f1, G4⟩ := y
        simp only [hbG] at e2
        refine hb Fz2 ba G3 σ3 H' Hs3 f1 G4 (k2.mono ex.b) q4 hbG _ ?_
        cases f1 with
        | nx => exact fun σ' H5 Fz' Hs' k5 a1 a2 => ⟨hlt, G4, Fz', Hs', k5, a1, (s2.trans ex.b).trans a2, e2⟩
        | ct => exact fun σ' H5 Fz' Hs' k5 a1 a2 => ⟨hlt, G4, Fz', Hs', k5, a1, (s2.trans ex.b).trans a2, e2⟩
        | bk => cases e2; exact fun σ' H5 Fz' Hs' k5 a1 a2 => p σ' H5 Fz' Hs' k5 a1 (s1.trans ((s2.trans ex.b).trans a2))
        | rt rr => cases e2; exact fun v σ' H5 Fz' Hs' k5 a1 a2 a3 => p v σ' H5 Fz' Hs' k5 a1 (s1.trans ((s2.trans ex.b).trans a2)) a3
  · have z : i = ds.length := by omega
    subst z
    rw [List.drop_length] at e2
    cases e2
    exact .inl ⟨Y.stop _ H2 (s2.trans q2.sub) (Nat.le_refl _), p _ _ Fz2 Hs2 k2 q2 (s1.trans s2)⟩
def xwithin (i : Nat) (f : M R) : M R := fun G => match G[i]? with
  | some en => match en.mu with
    | some (.o 2 [d]) => match f (.bx (.o 2 [d]) :: G.set i .un) with
      | some (r, .bx (.o 2 [_]) :: G2) => some (.im r.d, G2.set i (en.with (.o 2 [d])))
      | _ => none
    | _ => none
  | none => none
/-- Block.__init__, __enter__, __exit__ -/
def spBI (BC : Addr) : Sp := fun vs H Q _ => ∃ b a dx, vs = [.ref b, a] ∧ H b = some (.ins BC dx []) ∧ ∀ e H', H e = none → (∀ x, x ≠ b → x ≠ e → H' x = H x) → H' b = some (.ins BC dx [("live", a), ("kept", .ref e)]) → Q .non H'
def spBE (BC LC : Addr) : Sp := fun vs H Q _ => ∃ b a dx da e0 pv, vs = [.ref b] ∧ H b = some (.ins BC dx [("live", .ref a), ("kept", e0)]) ∧ H a = some (.ins LC da [("past", pv)]) ∧ Q (.ref a) (upd H b (.ins BC dx [("live", .ref a), ("kept", pv)]))
def spBX (BC LC : Addr) : Sp := fun vs H Q _ => ∃ b a dx da pv p2 k1 k2 k3, vs = [.ref b, k1, k2, k3] ∧ H b = some (.ins BC dx [("live", .ref a), ("kept", pv)]) ∧ H a = some (.ins LC da [("past", p2)]) ∧ Q .non (upd H a (.ins LC da [("past", pv)]))
theorem one_attr {fs : List (PySem.Str × V)} {d : D} {Hs : Hp} (h : fs.map (·.1) = (cAttrs 2).take [d].length) (hd : DRs K Hs (fs.map (·.2)) [d]) : ∃ pv, fs = [(("past" : PySem.Str), pv)] ∧ DR K Hs pv d := by
  match fs, h, hd with
  | [(n, v)], h, .cons hv _ =>
    have e : [n] = [("past" : PySem.Str)] := h
    cases e
    exact ⟨v, rfl, hv⟩
theorem Ent.with_mu {en : Ent} {m m' : Mob} (h : en.mu = some m) : (en.with m').mu = some m' := by
  cases en <;> first | rfl | cases h
theorem Ent.with_im {en : Ent} {m m' : Mob} {d : D} (h : en.mu = some m) : en.with m' ≠ .im d := by
  cases en <;> first | (intro z; cases z; done) | cases h
theorem mob_codeO {Hs : Hp} {m : Mob} {c : Addr} {q : PySem.Str} (h : MobO K Hs m (CodeO c q)) : False := by
  unfold CodeO at h
  cases m with
  | l _ => obtain ⟨_, z, _⟩ := h; cases z
  | o _ _ => obtain ⟨_, _, _, _, z, _⟩ := h; cases z
/-- the hidden things behind the making -/
noncomputable def fz2 (P : Addr) (q : PySem.Str) (Fz Hs H2 : Hp) : Hp := open Classical in fun b => if b = P then H2 P else if Hs b = none ∧ H2 b = some (CodeO b q) then H2 b else Fz b
section
variable {Fz Hs H H2 : Hp} {ba : Nat → Addr} {G : Gam} {σ : L2.St}
theorem fz2_sub (kt : KT P q Fz Hs) (r : Rel K Fz ba G σ H Hs) (ex : ExtP P H H2) {b : Addr} {o : HO} (h : fz2 P q Fz Hs H2 b = some o) : H2 b = some o ∧ Hs b = none := by
  unfold fz2 at h
  obtain ⟨ps, hp⟩ := kt.at_
  split at h
  case isTrue z => subst z; exact ⟨h, (r.fz _ _ hp).2⟩
  case isFalse z =>
    split at h
    case isTrue y => exact ⟨h, y.1⟩
    case isFalse y => exact ⟨ex b o z (r.fz b o h).1, (r.fz b o h).2⟩
theorem fz2_kt (kt : KT P q Fz Hs) (r : Rel K Fz ba G σ H Hs) (ex : ExtP P H H2) (tab : TabS H2 P q) : KT P q (fz2 P q Fz Hs H2) Hs := by
  obtain ⟨ps, h1, h2, h3⟩ := tab
  have e : fz2 P q Fz Hs H2 P = some (.tbl ps) := by
    unfold fz2
    rw [if_pos rfl]
    exact h1
  refine ⟨⟨ps, uni_f e, h2, fun pos cv hc => ?_⟩, ps, e⟩
  obtain ⟨c, rfl, hcc⟩ := h3 pos cv hc
  refine ⟨c, rfl, ?_⟩
  have ne : c ≠ P := fun z => by
    subst z
    rw [h1] at hcc
    exact codeO_ne ps (Option.some.inj hcc).symm
  cases z : Hs c with
  | none =>
    refine uni_f ?_
    unfold fz2
    rw [if_neg ne, if_pos ⟨z, hcc⟩]
    exact hcc
  | some o =>
    have n : fz2 P q Fz Hs H2 c = none := by
      unfold fz2
      rw [if_neg ne, if_neg fun y => by rw [z] at y; cases y.1]
      cases y : Fz c with
      | none => rfl
      | some u => have := (r.fz c u y).2; rw [z] at this; cases this
    rw [uni_s n, z]
    have := ex c o ne (r.sub c o z)
    rw [hcc] at this
    exact this.symm
theorem fz2_none (kt : KT P q Fz Hs) (r : Rel K Fz ba G σ H Hs) (ex : ExtP P H H2) {l : Addr} {o : HO} {m : Mob} (hl : H l = some o) (hf : Fz l = none) (hm : MobO K Hs m o) : fz2 P q Fz Hs H2 l = none ∧ H2 l = some o := by
  obtain ⟨ps, hp⟩ := kt.at_
  have ne : l ≠ P := fun z => by rw [z, hp] at hf; cases hf
  have h2 := ex l o ne hl
  refine ⟨?_, h2⟩
  unfold fz2
  rw [if_neg ne, if_neg fun y => ?_]
  · exact hf
  · rw [h2] at y
    rw [Option.some.inj y.2] at hm
    exact mob_codeO hm
end
/-- the lambda's slots: the object is its parameter's now -/
theorem rel_in {Fz F3 Hs H H4 : Hp} {ba : Nat → Addr} {G : Gam} {σ : L2.St} {i : Nat} {en : Ent} {m : Mob} {l : Addr} (r : Rel K Fz ba G σ H Hs) (hG : G[i]? = some en) (hm : en.mu = some m) (hσ : σ[i]? = some (some (.ref l)))
    (sub : Same Hs H4) (fz : ∀ b o, F3 b = some o → H4 b = some o ∧ Hs b = none) (own : ∀ b o m, H b = some o → Hs b = none → Fz b = none → MobO K Hs m o → H4 b = some o ∧ F3 b = none) :
    Rel K F3 (fun j => match j with | 0 => l | j + 1 => ba j) (.bx m :: G.set i .un) (some (.ref l) :: σ) H4 Hs where
  sub := sub
  fz := fz
  len := by rw [List.length_cons, List.length_cons, List.length_set, r.len]
  im := fun j d e => by
    match j with
    | 0 => cases e
    | j + 1 =>
      rcases get_set (show (G.set i .un)[j]? = _ from e) with ⟨_, z, _⟩ | ⟨_, z⟩
      · cases z
      · exact r.im j d z
  mu := fun j e m' h h0 => by
    match j with
    | 0 =>
      cases h
      cases h0
      obtain ⟨l', o, a1, a2, a3, a4, a5⟩ := r.mu i en m hG hm
      rw [hσ] at a1
      cases a1
      exact ⟨l, o, rfl, (own l o m a2 a3 a4 a5).1, a3, (own l o m a2 a3 a4 a5).2, a5⟩
    | j + 1 =>
      rcases get_set (show (G.set i .un)[j]? = _ from h) with ⟨_, z, _⟩ | ⟨_, z⟩
      · subst z; cases h0
      · obtain ⟨l', o, a1, a2, a3, a4, a5⟩ := r.mu j e m' z h0
        exact ⟨l', o, a1, (own l' o m' a2 a3 a4 a5).1, a3, (own l' o m' a2 a3 a4 a5).2, a5⟩
  dj := fun j k e e' l' h1 h2 m1 m2 s1 s2 => by
    have two : ∀ (k : Nat) (e' : Ent), (G.set i .un)[k]? = some e' → e'.mu ≠ none → σ[k]? = some (some (V.ref l)) → False := fun k e' h m s => by
      rcases get_set h with ⟨_, z, _⟩ | ⟨ne, z⟩
      · subst z; exact m rfl
      · exact ne (r.dj i k en e' l hG z (by rw [hm]; simp) m hσ s)
    match j, k with
    | 0, 0 => rfl
    | 0, k + 1 => cases s1; exact (two k e' h2 m2 s2).elim
    | j + 1, 0 => cases s2; exact (two j e h1 m1 s1).elim
    | j + 1, k + 1 =>
      rcases get_set (show (G.set i .un)[j]? = _ from h1) with ⟨_, z, _⟩ | ⟨_, z1⟩
      · subst z; exact absurd rfl m1
      · rcases get_set (show (G.set i .un)[k]? = _ from h2) with ⟨_, z, _⟩ | ⟨_, z2⟩
        · subst z; exact absurd rfl m2
        · exact congrArg Nat.succ (r.dj j k e e' l' z1 z2 m1 m2 s1 s2)
  bx := fun j m' h => by
    match j with
    | 0 => rfl
    | j + 1 =>
      rcases get_set (show (G.set i .un)[j]? = _ from h) with ⟨_, z, _⟩ | ⟨_, z⟩
      · cases z
      · exact r.bx j m' z
/-- back: the object is the name's again -/
theorem rel_out {Fz F2 F3 Hs Hs6 H H5 : Hp} {ba : Nat → Addr} {G G2 : Gam} {σ : L2.St} {i : Nat} {en : Ent} {m m2 m7 : Mob} {l : Addr} {o7 : HO} (r : Rel K Fz ba G σ H Hs) (hG : G[i]? = some en) (hm : en.mu = some m) (hσ : σ[i]? = some (some (.ref l)))
    (r6 : Rel K F3 (fun j => match j with | 0 => l | j + 1 => ba j) (.bx m2 :: G2) (some (.ref l) :: σ) H5 Hs6) (h23 : ∀ b, b ≠ l → F2 b ≠ none → F3 b = F2 b) (h32 : ∀ b, F3 b = none → F2 b = none) (hM : MobO K Hs6 m7 o7) :
    Rel K F2 ba (G2.set i (en.with m7)) σ (upd H5 l o7) Hs6 := by
  obtain ⟨l', o', b1, b2, b3, b4, b5⟩ := r6.mu 0 _ m2 rfl rfl
  cases Option.some.inj (Option.some.inj (show some (some (V.ref l)) = some (some (V.ref l')) from b1))
  have two : ∀ (k : Nat) (e' : Ent), G2[k]? = some e' → e'.mu ≠ none → σ[k]? = some (some (V.ref l)) → False := fun k e' h m s => by
    have := r6.dj 0 (k + 1) _ e' l rfl h (by simp [Ent.mu]) m rfl s
    cases this
  refine ⟨fun b o e => ?_, fun b o e => ?_, ?_, fun j d e => ?_, fun j e m' h h0 => ?_, fun j k e e' l2 h1 h2 m1 m2 s1 s2 => ?_, fun j m' h => ?_⟩
  · have ne : b ≠ l := fun z => by rw [z, b3] at e; cases e
    rw [upd_ne ne]
    exact r6.sub b o e
  · have ne : b ≠ l := fun z => by
      rw [z, h32 l b4] at e
      cases e
    rw [upd_ne ne]
    exact r6.fz b o ((h23 b ne (by rw [e]; simp)).trans e)
  · have := r6.len
    rw [List.length_cons, List.length_cons] at this
    rw [List.length_set]
    omega
  · rcases get_set e with ⟨_, z, _⟩ | ⟨_, z⟩
    · exact (Ent.with_im hm z.symm).elim
    · exact r6.im (j + 1) d z
  · rcases get_set h with ⟨rfl, z, _⟩ | ⟨ne, z⟩
    · subst z
      rw [Ent.with_mu hm] at h0
      cases h0
      exact ⟨l, o7, hσ, upd_same, b3, h32 l b4, hM⟩
    · obtain ⟨l3, o3, c1, c2, c3, c4, c5⟩ := r6.mu (j + 1) e m' z h0
      have nl : l3 ≠ l := fun w => by
        subst w
        exact two j e z (by rw [h0]; simp) c1
      exact ⟨l3, o3, c1, by rw [upd_ne nl]; exact c2, c3, h32 l3 c4, c5⟩
  · rcases get_set h1 with ⟨a1, z1, _⟩ | ⟨a1, z1⟩ <;> rcases get_set h2 with ⟨a2, z2, _⟩ | ⟨a2, z2⟩
    · exact a1.symm.trans a2
    · subst a1
      rw [hσ] at s1
      cases s1
      exact (two k e' z2 m2 s2).elim
    · subst a2
      rw [hσ] at s2
      cases s2
      exact (two j e z1 m1 s1).elim
    · exact Nat.succ.inj (r6.dj (j + 1) (k + 1) e e' l2 z1 z2 m1 m2 s1 s2)
  · rcases get_set h with ⟨a1, z, _⟩ | ⟨_, z⟩
    · subst a1
      cases en with
      | bx m0 => exact r.bx _ m0 hG
      | ow _ => cases z
      | im _ => cases hm
      | un => cases hm
    · exact r6.bx (j + 1) m' z
theorem gk_within {BC : Addr} {i : Nat} {t : TE} {f : M R} (LT : ClT K mg 2) (hf : GOk K t f) : GOkT K P q (tWithin P q LT.C BC (spBI BC) (spBE BC LT.C) (spBX BC LT.C) (tVar i) t) (xwithin i f) := fun Fz ba G σ H Hs r G' kt R e Q k => by
  unfold xwithin at e
  cases hG : G[i]? with
  | none => rw [hG] at e; cases e
  | some en =>
    rw [hG] at e
    simp only at e
    split at e
    case h_2 => cases e
    rename_i d hm
    split at e
    case h_2 => cases e
    rename_i r0 d2 G2 e0
    cases e
    obtain ⟨l, o, hσ, hl, hsl, hfl, C, dx, fs, hC, rfl, hn, hd⟩ := R.mu i en _ hG hm
    cases hC.eq LT.at_
    obtain ⟨pv, rfl, dpv⟩ := one_attr hn hd
    have mob0 : MobO K Hs (.o 2 [d]) (.ins LT.C dx [("past", pv)]) := ⟨LT.C, dx, _, LT.at_, rfl, rfl, .cons dpv .nil⟩
    refine ⟨.ref l, hσ, l, dx, _, rfl, hl, rfl, kt.tabS R, fun f9 c9 H2 isC ext tab => ?_⟩
    obtain ⟨nf, l2⟩ := fz2_none kt R ext hl hfl mob0
    refine ⟨.ref l, rfl, fun bb db hbb hdb hne => ?_⟩
    refine ⟨bb, .ref l, db, rfl, upd_same, fun e9 H3 he9 same3 at3 => ⟨rfl, ?_⟩⟩
    -- what stood stays
    have ne_ : ∀ {b : Addr} {o : HO}, H2 b = some o → b ≠ bb ∧ b ≠ db ∧ b ≠ e9 := fun {b o} h => by
      have n1 : b ≠ bb := ne_of_none h hbb
      have n2 : b ≠ db := ne_of_none h hdb
      refine ⟨n1, n2, fun z => ?_⟩
      subst z
      rw [upd_ne n1, upd_ne n2, h] at he9
      cases he9
    have keep : ∀ b o, H2 b = some o → H3 b = some o := fun b o h => by
      obtain ⟨n1, n2, n3⟩ := ne_ h
      rw [same3 b n1 n3, upd_ne n1, upd_ne n2]
      exact h
    refine ⟨bb, db, _, rfl, at3, bb, l, db, dx, .ref e9, pv, rfl, at3, keep l _ l2, ?_⟩
    have keep4 : ∀ b o, H2 b = some o → upd H3 bb (.ins BC db [("live", .ref l), ("kept", pv)]) b = some o := fun b o h => (upd_ne (ne_ h).1).trans (keep b o h)
    refine ⟨rfl, keep4 _ _ isC, .ref l, rfl, ?_⟩
    have kt2 := fz2_kt kt R ext tab
    obtain ⟨ps, hp⟩ := kt.at_
    have nP : ∀ {b : Addr} {o : HO}, Hs b = some o → b ≠ P := fun {b o} h z => by
      rw [z, (R.fz P _ hp).2] at h
      cases h
    have r3 : Rel K (upd (fz2 P q Fz Hs H2) bb (.ins BC db [("live", .ref l), ("kept", pv)])) (fun j => match j with | 0 => l | j + 1 => ba j) (.bx (.o 2 [d]) :: G.set i .un) (some (.ref l) :: σ) (upd H3 bb (.ins BC db [("live", .ref l), ("kept", pv)])) Hs := by
      refine rel_in R hG hm hσ (fun b o h => keep4 b o (ext b o (nP h) (R.sub b o h))) (fun b o h => ?_) fun b o m h1 h2 h3 h4 => ?_
      · by_cases z : b = bb
        · subst z
          rw [upd_same] at h ⊢
          refine ⟨h, ?_⟩
          cases y : Hs b with
          | none => rfl
          | some u =>
            have := ext b u (nP y) (R.sub b u y)
            rw [hbb] at this
            cases this
        · rw [upd_ne z] at h
          obtain ⟨y1, y2⟩ := fz2_sub kt R ext h
          exact ⟨keep4 b o y1, y2⟩
      · obtain ⟨y1, y2⟩ := fz2_none kt R ext h1 h3 h4
        exact ⟨keep4 b o y2, (upd_ne (ne_ y2).1).trans y1⟩
    refine hf _ _ _ _ _ _ _ _ r3 e0 _ fun v H5 Hs5 R5 s5 res5 => ?_
    obtain ⟨Hs6, R6, s6, dv⟩ := R5.fzr res5
    obtain ⟨l', o', b1, b2, b3, b4, C', dx', fs', hC', rfl, hn', hd'⟩ := R6.mu 0 _ _ rfl rfl
    cases Option.some.inj (Option.some.inj (show some (some (V.ref l)) = some (some (V.ref l')) from b1))
    cases hC'.eq LT.at_
    obtain ⟨pv2, rfl, dpv2⟩ := one_attr hn' hd'
    refine ⟨bb, l, db, dx', pv, pv2, .non, .non, .non, rfl, (R6.fz bb _ upd_same).1, b2, ?_⟩
    have s9 := s5.trans s6
    refine k v _ _ Hs6 (kt2.mono s9) (rel_out (m7 := .o 2 [d]) R hG hm hσ R6 (fun b _ h => ?_) (fun b h => ?_) ⟨LT.C, dx', _, LT.at_, rfl, rfl, .cons (dpv.mono s9) .nil⟩) s9 dv
    · have nb : b ≠ bb := fun z => by
        subst z
        cases y : fz2 P q Fz Hs H2 b with
        | none => exact h y
        | some u =>
          have := (fz2_sub kt R ext y).1
          rw [hbb] at this
          cases this
      exact upd_ne nb
    · by_cases z : b = bb
      · subst z
        rw [upd_same] at h
        cases h
      · rw [upd_ne z] at h
        exact h
end
end Bk
namespace Bk
open PySem PySem.Spec PyProof.Rows L2 LamX
section
variable {K : PySem.W.Frag} {mg : PySem.Str → Option Value}
theorem rd_BI (BT : ClT K mg 3) {vs : List V} {H : Hp} {Q : VK} {E : XK} (q : spBI BT.C vs H Q E) : vs.length = 2 ∧ tSeq (sFld K (tVar 0) (tVar 1) "live") (sFld K (tVar 0) (tTup tNil) "kept") { nx := fun _ H' => Q .non H', rt := Q } (L2.start ["self", "live"] vs) H := by
  obtain ⟨b, a, dx, rfl, hb, k⟩ := q
  refine ⟨rfl, a, rfl, .ref b, rfl, b, BT.C, dx, _, rfl, hb, BT.cls, BT.na _ (by decide), by decide, by decide, fun e he => ?_⟩
  have ne : e ≠ b := fun z => by rw [z, upd_same] at he; cases he
  have he' : H e = none := by rw [upd_ne ne] at he; exact he
  refine ⟨.ref b, rfl, b, BT.C, dx, [(("live" : PySem.Str), a)], rfl, ?_, BT.cls, BT.na _ (by decide), (by show 1 < 1000; decide), k e _ he' (fun x h1 h2 => ?_) upd_same⟩
  · rw [upd_ne (Ne.symm ne), upd_same]
    rfl
  · rw [upd_ne h1, upd_ne h2, upd_ne h1]
theorem rd_BE (BT : ClT K mg 3) (LT : ClT K mg 2) {vs : List V} {H : Hp} {Q : VK} {E : XK} (q : spBE BT.C LT.C vs H Q E) : vs.length = 1 ∧ tSeq (sFld K (tVar 0) (tFld K (tFld K (tVar 0) "live") "past") "kept") (tRet (tFld K (tVar 0) "live")) { nx := fun _ H' => Q .non H', rt := Q } (L2.start ["self"] vs) H := by
  obtain ⟨b, a, dx, da, e0, pv, rfl, hb, ha, k⟩ := q
  refine ⟨rfl, .ref b, rfl, b, BT.C, dx, _, .ref a, rfl, hb, BT.cls, BT.na _ (by decide), rfl, a, LT.C, da, _, pv, rfl, ha, LT.cls, LT.na _ (by decide), rfl, .ref b, rfl, b, BT.C, dx, _, rfl, hb, BT.cls, BT.na _ (by decide), (by show 2 < 1000; decide), ?_⟩
  exact ⟨.ref b, rfl, b, BT.C, dx, _, .ref a, rfl, upd_same, BT.cls, BT.na _ (by decide), rfl, k⟩
theorem rd_BX (BT : ClT K mg 3) (LT : ClT K mg 2) {vs : List V} {H : Hp} {Q : VK} {E : XK} (q : spBX BT.C LT.C vs H Q E) : vs.length = 4 ∧ sFld K (tFld K (tVar 0) "live") (tFld K (tVar 0) "kept") "past" { nx := fun _ H' => Q .non H', rt := Q } (L2.start ["self", "kind", "value", "trace"] vs) H := by
  obtain ⟨b, a, dx, da, pv, p2, k1, k2, k3, rfl, hb, ha, k⟩ := q
  exact ⟨rfl, .ref b, rfl, b, BT.C, dx, _, pv, rfl, hb, BT.cls, BT.na _ (by decide), rfl, .ref b, rfl, b, BT.C, dx, _, .ref a, rfl, hb, BT.cls, BT.na _ (by decide), rfl, a, LT.C, da, _, rfl, ha, LT.cls, LT.na _ (by decide), (by show 1 < 1000; decide), k⟩
def spL (K : PySem.W.Frag) (m : List D → Option R) (P : Addr) : Sp := fun vs H Q _ => ∃ Hs ds r, Same Hs H ∧ DRs K Hs vs ds ∧ m ds = some r ∧ Hs P = none ∧ H P = some (.tbl #[]) ∧ ∀ v H' Hs', DR K Hs' v r.d → Q v H'
theorem spL_len {k n : Nat} {b : MS} {P : Addr} {vs : List V} {H : Hp} {Q : VK} {E : XK} (q : spL K (runF k n b) P vs H Q E) : vs.length = k := by
  obtain ⟨Hs, ds, r, s, d, e, _⟩ := q
  unfold runF at e
  split at e
  case isFalse => cases e
  rename_i hl
  rw [d.len, hl]
theorem fin_L {N : List PySem.Str} {k : Nat} {t : TS} {b : MS} {P : Addr} {q9 : PySem.Str} (h : SOkT K P q9 t b) (hk : k ≤ N.length) {vs : List V} {H : Hp} {Q : VK} {E : XK} (q : spL K (runF k N.length b) P vs H Q E) : t { nx := fun _ H' => Q .non H', rt := Q } (L2.start N vs) H := by
  have hlen := spL_len q
  obtain ⟨Hs, ds, r, s, d, e, hP, hT, kk⟩ := q
  unfold runF at e
  split at e
  case isFalse => cases e
  rename_i hl
  have R0 := rel_start (N := N) s d (by rw [hlen]; exact hk)
  have hF : hid H Hs P = some (.tbl #[]) := by
    unfold hid
    rw [hP]
    exact hT
  have kt : KT P q9 (hid H Hs) Hs := ⟨TabS.nil (uni_f hF), #[], hF⟩
  cases z : b (pad N.length ds) with
  | none => rw [z] at e; cases e
  | some p =>
    obtain ⟨fl, G'⟩ := p
    rw [z] at e
    refine h _ _ _ _ _ _ fl G' kt R0 z _ ?_
    cases fl with
    | nx => cases e; exact fun σ' H' Fz' Hs' _ _ _ => kk .non H' Hs' .non
    | rt r' =>
      cases e
      exact fun v σ' H' Fz' Hs' _ q1 s1 x => by
        obtain ⟨Hs2, _, _, dr⟩ := q1.fzr x
        exact kk v H' Hs2 dr
    | bk => cases e
    | ct => cases e
end
section
variable {P : Program} {w : World} {K : PySem.W.Frag} {mg : PySem.Str → Option Value} {base : Heap}
theorem data_L {x qual : PySem.Str} {st : Stmt} {f c P9 : Addr} {fd : FuncData} {N ps : List PySem.Str} {k : Nat} {b : MS} (F : Fun K x qual st f fd) (hc : fd.code = .ref c) (S : FnScope N ps (defScope st))
    (hb : ∀ (A : Around) (outer : List Env) (s : Shared) (H : Hp) (E : XK), Room k (A.deeper (envOfC qual (defScope st) s.heap.objs.size f (.ref c))) →
      ∃ t, PSs (cxOf CX0 P w K mg base N qual (defScope st) f (.ref c) A outer s H E).nox (defBody st) t ∧ SOkT K P9 ((qual ++ ".<locals>.") ++ "<lambda>") t b) : FnOk P w K mg base CX0 (k + 1) f fd ps (spL K (runF ps.length N.length b) P9) := by
  obtain ⟨oc, od, kV, doc, pm, an, cdv, ct, osl, rfl, lk, hcd⟩ := F.ex
  have e : cdv = .ref c := hc
  subst e
  refine fn_of lk hcd S (fun vs H Q E q => spL_len q) fun A outer s H vs Q E hr q => ?_
  obtain ⟨t, h1, h2⟩ := hb A outer s H E hr
  exact ⟨t, h1.nox, fin_L h2 (scope_le S) q⟩
end
def isStr : Value → Bool
  | .str _ _ => true
  | _ => false
def isInt : Value → Bool
  | .int _ _ => true
  | _ => false
def isBl : Value → Bool
  | .bool _ => true
  | _ => false
def cdB (vs : Array Value) : Bool := isStr (vs.getD 18 .none) && isInt (vs.getD 7 .none) && isBl (vs.getD 9 .none) && isInt (vs.getD 10 .none)
theorem codeHd_of {K : PySem.W.Frag} {h : Heap} {c P : Addr} {vs : Array Value} {dd : Option Addr} {sl : Array (Option Value)} (X : K.In h) (lk : K.lookup c = some ⟨.type "code", dd, .fields vs, sl⟩) (h11 : vs[11]? = some (.ref P)) (hb : cdB vs = true) (ne : c ≠ P) : PySem.W.CodeHd h c P := by
  unfold cdB at hb
  simp only [Bool.and_eq_true] at hb
  obtain ⟨⟨⟨b1, b2⟩, b3⟩, b4⟩ := hb
  have g11 : vs.getD 11 .none = .ref P := by
    rw [Array.getD_eq_getD_getElem?, h11]
    rfl
  generalize e1 : vs.getD 18 .none = v1 at b1
  generalize e2 : vs.getD 7 .none = v2 at b2
  generalize e3 : vs.getD 9 .none = v3 at b3
  generalize e4 : vs.getD 10 .none = v4 at b4
  cases v1 <;> first | cases b1 | skip
  cases v2 <;> first | cases b2 | skip
  cases v3 <;> first | cases b3 | skip
  cases v4 <;> first | cases b4 | skip
  exact ⟨_, vs, _, _, _, _, _, _, _, X _ _ lk, rfl, rfl, h11, g11, e1, e2, e3, e4, ne⟩
theorem law_endT {l : PySem.W.OpenLaw} {q : Program} {loose : List PySem.Str} {XP : (PySem.Str → Option Value) → Heap → Prop} {YP : World → Heap → Prop} {d : DefRec} {K : Params → PySem.W.Frag} {x : PySem.Str} {m : List D → Option R} {k : Nat}
    (hn : l.most = some 63) (hdf : d.params.defaults = []) (hk : Room k callerA) (hrec : ((recsOf q).any fun e => e.name == d.name) = true) (hY : ∀ (w : World) (h : Heap), YP w h → (K w.params).In h)
    (F : ∀ (w : World) (mg : PySem.Str → Option Value) (fa : Addr) (h : Heap), (K w.params).In h → h.Ns mainGlobals mg → mg d.name = some (.ref fa) →
      ∃ (fd : FuncData) (c P9 : Addr) (o : Obj) (dd : Option Addr) (vs : Array Value) (sl : Array (Option Value)), (∀ (s : Shared) (u : Value), BindsTo s fd ⟨[u], []⟩ [(x, u)]) ∧ (K w.params).lookup fa = some o ∧ o.data = .func fd ∧ fd.code = .ref c ∧
        (K w.params).lookup c = some ⟨.type "code", dd, .fields vs, sl⟩ ∧ vs[11]? = some (.ref P9) ∧ cdB vs = true ∧ c ≠ P9 ∧ (K w.params).lookup P9 = none ∧
        ∀ base : Heap, (K w.params).In base → base.Ns mainGlobals mg → TabB base mg c P9 → FnOk l.prog w (K w.params) mg base CX0 k fa fd [x] (spL (K w.params) m P9))
    (hm : ∀ ns : List Int, ns.length ≤ 63 → m [.frz (ns.map .int)] = some (.im (.bl true))) :
    PySem.W.WalkO q loose XP YP l.row.toRowW d [] (fun f vs => PySem.call f vs) := by
  refine walk_ofOwn (n := 63) (k := k) (K := K) (CX := fun _ => CX0) (x := x) hn (by decide) hdf hk hrec hY (fun w mg fa h Y KX G hmg own => ?_) fun _ _ _ _ _ z => z
  obtain ⟨fd, c, P9, o, dd, vs, sl, hb, lf, hd, hc, lc, h11, hcd, ne, nP, hF⟩ := F w mg fa h KX G hmg
  have only : ∀ {R : Addr × Addr → Prop}, R (c, P9) → ∀ p ∈ [(c, P9)], R p := fun {R} h p hp => by
    rw [List.mem_singleton.mp hp]
    exact h
  refine ⟨fd, [(c, P9)], spL (K w.params) m P9, only (own c P9 o fd _ dd vs sl lf hd hc lc h11), only nP, only (codeHd_of KX lc h11 hcd ne), hb, fun H a ns hl _ hT hS => ?_, fun base KB nsB TB => hF base KB nsB (TB (c, P9) List.mem_cons_self)⟩
  have tP : H P9 = some (.tbl #[]) := hT (c, P9) List.mem_cons_self
  have s : Same (fun b => if b = P9 then none else H b) H := fun b o e => by
    have e : (if b = P9 then none else H b) = some o := e
    by_cases z : b = P9
    · rw [if_pos z] at e
      cases e
    · rw [if_neg z] at e
      exact e
  have hS' : SqL (K w.params) (fun b => if b = P9 then none else H b) a (ns.map V.int) := by
    cases hS with
    | inr z => exact .inr z
    | inl z =>
      refine .inl ?_
      have ne : a ≠ P9 := fun y => by
        subst y
        rcases z with z | ⟨o, z⟩ <;> rw [tP] at z <;> cases z
      rcases z with z | ⟨o, z⟩
      · exact .inl ((if_neg ne).trans z)
      · exact .inr ⟨o, (if_neg ne).trans z⟩
  exact ⟨_, _, _, s, .cons (.frz hS' (DRs.ints ns)) .nil, hm ns hl, if_pos rfl, tP, fun v H' Hs' r => dr_bl r⟩
abbrev lawQ : PySem.Str := (("law" : PySem.Str) ++ ".<locals>.") ++ "<lambda>"
def lamPB (sc scope : Scope) (p : PySem.Str) : Bool := decide (scope.kind = .function) && (!scope.isCoroutine) && (!scope.isGenerator) && decide (scope.names.lookup p = some .local) && scope.names.all (okName sc p)
theorem lamP_by {sc scope : Scope} {p : PySem.Str} (h : lamPB sc scope p = true) : LamP sc scope p := by
  unfold lamPB at h
  simp only [Bool.and_eq_true, Bool.not_eq_true', decide_eq_true_eq, List.all_eq_true] at h
  exact ⟨⟨⟨h.1.1.1.1, h.1.1.1.2⟩, h.1.1.2⟩, h.1.2, h.2⟩
end Bk
namespace Bk
open PySem PySem.Spec PyProof.Rows L2 LamX
section
variable {K : PySem.W.Frag} {mg : PySem.Str → Option Value}
/-- the arguments by names, put in order -/
def xpk (k : Nat) (is : List Nat) (ka : M (List D)) : M (List D) := fun G => bd (ka G) fun zs G1 => if zs.length = k then some (pick is zs, G1) else none
def tPk (k : Nat) (is : List Nat) (tk : TA) : TA := fun σ H Q => tk σ H fun zs H2 => zs.length = k ∧ Q (pick is zs) H2
theorem ak_pk {k : Nat} {is : List Nat} {tk : TA} {ka : M (List D)} (hk : AOk K tk ka) : AOk K (tPk k is tk) (xpk k is ka) := fun Fz ba G σ H Hs xs G' q e Q kk => by
  obtain ⟨zs, G1, e1, e⟩ := bd_inv e
  split at e
  case isFalse => cases e
  rename_i hl
  cases e
  exact hk Fz ba G σ H Hs zs _ q e1 _ fun vs H1 Hs1 q1 s1 d1 => ⟨d1.len.trans hl, kk _ H1 Hs1 q1 s1 (pick_drs d1 is)⟩
/-- x.m(k = v, ..), x owned -/
theorem gk_methBK {c i : Nat} {nm : PySem.Str} {m : Mob → List D → Option (R × Mob)} {k : Nat} {is : List Nat} {E : XK} (T : ClT K mg c) (hn : nm ∉ cAttrs c) {tk : TA} {ka : M (List D)} (hk : AOk K tk ka) :
    GOk K (tMethN T.C nm k (spB K m) (fun vs zs => pick (pk1 is) (vs ++ (zs ++ []))) E (tVar i) tk) (xmethB i c m [] (xpk k is ka)) := fun Fz ba G σ H Hs res G' q e Q kk => by
  obtain ⟨v, h1, l, dx, fs, rfl, h3, h4, z⟩ := gk_methB (E := E) T hn (ak_pk (k := k) (is := is) hk) Fz ba G σ H Hs res G' q e Q kk
  refine ⟨_, h1, l, dx, fs, rfl, h3, h4, ?_⟩
  have same : (fun (zs : List V) (H2 : Hp) => zs.length = k ∧ spB K m (pick (pk1 is) ([V.ref l] ++ (zs ++ []))) H2 Q E) = fun zs H2 => zs.length = k ∧ spB K m (.ref l :: (pick is zs ++ [])) H2 Q E := funext fun zs => funext fun H2 => by
    rw [List.append_nil, List.append_nil, show [V.ref l] ++ zs = .ref l :: zs from rfl, pick_head]
  exact (congrArg (fun F : List V → Hp → Prop => tk σ H F) same).mpr z
/-- C().m(k = c), one argument, written out -/
def xtmpK (c : Nat) (mi m : Mob → List D → Option (R × Mob)) (d : D) : M R := fun G => match mi (.o c []) [] with
  | some (.im .non, .o c' ds) => if c' = c then (match m (.o c ds) [d] with
    | some (.im y, _) => some (.im y, G)
    | _ => none) else none
  | _ => none
theorem gk_tmpK {c : Nat} {nm : PySem.Str} {mi m : Mob → List D → Option (R × Mob)} {v : V} {d : D} {E E' : XK} (T : ClT K mg c) (hn : nm ∉ cAttrs c) (hv : ∀ H, DR K H v d) :
    GOk K (tMethN T.C nm 1 (spB K m) (fun vs zs => pick (pk1 [0]) (vs ++ (zs ++ []))) E (tMake T.C (spB K mi) [] E' tNil) (tCons (tC v) tNil)) (xtmpK c mi m d) := fun Fz ba G σ H Hs res G' q e Q kk => by
  unfold xtmpK at e
  split at e
  case h_2 => cases e
  rename_i c' ds hmi
  split at e
  case isFalse => cases e
  rename_i hc
  subst hc
  split at e
  case h_2 => cases e
  rename_i y b' hm
  cases e
  refine fun x dx hx hdx hne => ?_
  have grown : Same H (upd (upd H dx (.own x)) x (.ins T.C dx [])) := fun b o hb => by
    rw [upd_ne (ne_of_none hb hx), upd_ne (ne_of_none hb hdx)]
    exact hb
  refine ⟨Hs, x, [], _, .o c' [], [], .im .non, .o c' ds, rfl, q.sub.trans grown, upd_same, none_sub q.sub hx, ⟨T.C, dx, [], T.at_, rfl, rfl, .nil⟩, .nil, hmi, fun w H3 Hs3 o2 ex hl2 hn2 hd2 rf => ?_⟩
  refine ⟨by cases rf; rfl, ?_⟩
  have hd3 := hd2
  obtain ⟨C, dx2, fs, hC, rfl, hnn, hs⟩ := hd2
  cases hC.eq T.at_
  refine ⟨x, dx2, fs, rfl, hl2, fs_none fun z => hn ?_, rfl, ?_⟩
  · rw [hnn] at z
    exact List.mem_of_mem_take z
  refine ⟨Hs3, x, [v], _, .o c' ds, [d], .im y, b', rfl, ex.c, hl2, hn2, hd3, .cons (hv _) .nil, hm, fun u H4 Hs4 o4 ex4 hl4 hn4 hd4 rf4 => ?_⟩
  have whole : Ext H Hs H4 Hs4 := ⟨fun b o hb => ex4.a b o (ne_of_none hb hx) (ex.a b o (ne_of_none hb hx) (grown b o hb)), ex.b.trans ex4.b, ex4.c, fun b o hb hnb => ex4.n b o (ex.a b o (ne_of_none hb hx) (grown b o hb)) (ex.n b o (grown b o hb) hnb)⟩
  exact kk u H4 Hs4 (q.ext whole) whole.b ((show ResF K H H4 Hs4 u (.im y) from rf4).res q)
end
section
variable {K : PySem.W.Frag} {mg : PySem.Str → Option Value} {P : Addr} {q : PySem.Str}
def TOkT (K : PySem.W.Frag) (P : Addr) (q : PySem.Str) (t : TT) (f : M Bool) : Prop := ∀ Fz ba G σ H Hs b G', KT P q Fz Hs → Rel K Fz ba G σ H Hs → f G = some (b, G') →
  ∀ Q : Bool → Hp → Prop, (∀ H' Fz' Hs', KT P q Fz' Hs' → Rel K Fz' ba G' σ H' Hs' → Same Hs Hs' → Q b H') → t σ H Q
theorem GOkT.im {t : TE} {f : M R} (h : GOkT K P q t f) {Fz : Hp} {ba : Nat → Addr} {G : Gam} {σ : L2.St} {H Hs : Hp} {r : R} {G' : Gam} (kt : KT P q Fz Hs) (w : Rel K Fz ba G σ H Hs) (e : f G = some (r, G')) {Q : VK}
    (k : ∀ v H' Fz' Hs', KT P q Fz' Hs' → Rel K Fz' ba G' σ H' Hs' → Same Hs Hs' → DR K Hs' v r.d → Q v H') : t σ H Q :=
  h Fz ba G σ H Hs r G' kt w e Q fun v H' Fz' Hs' kt' w' s x => by
    obtain ⟨Hs2, w2, s2, d⟩ := w'.fzr x
    exact k v H' Fz' Hs2 (kt'.mono s2) w2 (s.trans s2) d
theorem gk_opT {r : R2} {o : D → D → Option R} {ta tb : TE} {a b : M R} (ho : OpD K r o) (ha : GOkT K P q ta a) (hb : GOk K tb b) : GOkT K P q (tOp r ta tb) (xop o a b) := fun Fz ba G σ H Hs res G' kt w e Q k => by
  obtain ⟨x, G1, e1, e⟩ := bd_inv e
  obtain ⟨y, G2, e2, e⟩ := bd_inv e
  cases hz : o x.d y.d with
  | none => rw [hz] at e; cases e
  | some z =>
    rw [hz] at e
    cases e
    refine ha.im kt w e1 fun v1 H1 Fz1 Hs1 k1 w1 s1 d1 => hb.im w1 e2 fun v2 H2 Hs2 w2 s2 d2 => ?_
    exact ho H2 Hs2 v1 v2 x.d y.d _ w2.sub (d1.mono s2) d2 hz Q fun v H3 Hs3 ex rf => k v H3 Fz1 Hs3 ((k1.mono s2).mono ex.b) (w2.ext ex) ((s1.trans s2).trans ex.b) (rf.res w2)
theorem tk_testT {ta : TE} {a : M R} (ha : GOkT K P q ta a) : TOkT K P q (tTest ta) (xtest a) := fun Fz ba G σ H Hs b G' kt w e Q k => by
  obtain ⟨x, G1, e1, e⟩ := bd_inv e
  refine ha.im kt w e1 fun v H1 Fz1 Hs1 k1 w1 s1 d => ?_
  cases hz : x.d with
  | bl c =>
    rw [hz] at e d
    cases e
    exact ⟨_, dr_bl d, k H1 Fz1 Hs1 k1 w1 s1⟩
  | _ => rw [hz] at e; cases e
theorem tk_orT {t u : TT} {a b : M Bool} (ha : TOk K t a) (hb : TOkT K P q u b) : TOkT K P q (tOr t u) (xtor a b) := fun Fz ba G σ H Hs r G' kt w e Q k => by
  obtain ⟨x, G1, e1, e⟩ := bd_inv e
  refine ha Fz ba G σ H Hs x G1 w e1 _ fun H1 Hs1 w1 s1 => ?_
  cases x with
  | true => cases e; exact k H1 Fz Hs1 (kt.mono s1) w1 s1
  | false => exact hb Fz ba G1 σ H1 Hs1 r G' (kt.mono s1) w1 e Q fun H2 Fz2 Hs2 k2 w2 s2 => k H2 Fz2 Hs2 k2 w2 (s1.trans s2)
theorem sk_ifTT {t : TT} {u z : TS} {c : M Bool} {a b : MS} (hc : TOkT K P q t c) (ha : SOkT K P q u a) (hb : SOkT K P q z b) : SOkT K P q (tIfS t u z) (xifs c a b) := fun Fz ba G σ H Hs fl G' kt w e Dn p => by
  obtain ⟨x, G1, e1, e⟩ := bd_inv e
  refine hc Fz ba G σ H Hs x G1 kt w e1 _ fun H1 Fz1 Hs1 k1 w1 s1 => ?_
  cases x with
  | true => exact ha Fz1 ba G1 σ H1 Hs1 fl G' k1 w1 e Dn (p.mono s1)
  | false => exact hb Fz1 ba G1 σ H1 Hs1 fl G' k1 w1 e Dn (p.mono s1)
end
section
variable {X : Cx} {LC BC c P : Addr} {spI spE spX : Sp} {k : Nat} {o : Expr} {te t : TE} {params : Arguments} {body : Expr} {scope : Scope} {p : PySem.Str} {lpos apos pos kpos : Pos} {g : List Value → List Value → List Value} {gV : List V → List V → List V}
theorem pe_withinK {pl : Sem Bool} (W : WinC X.prog X.w X.K X.mg X.base LC BC spI spE spX) (he : PE X o te) (TB : TabB X.base X.mg c P) (hcode : X.env.code = .ref c) (hr : Room (k + 3) X.A)
    (hkb : KBn X.K W.fd ["self", "work"] 1 [("work" : PySem.Str)] g gV) (hg : ∀ x y, g [x] [y] = [x, y])
    (L : LamP X.env.scope scope p) (hp : p ∉ X.N) (hdef : defaultsOf params X.env = ([], [])) (hbind : ∀ (q : PySem.Str) (cl : List (PySem.Str × Addr)) (pm cv ctv u : Value), bindArgs (PySem.W.kla_fn "<lambda>" q params body scope cl pm cv ctv) ⟨[u], []⟩ = pure [(p, u)])
    (hbody : ∀ (A : Around) (outer : List Env) (s : Shared) (H : Hp) (f c' : Addr), Room k (A.deeper (lamEnv X scope s.heap.objs.size f c')) → PE (lamCx1 X p A outer s H E0 scope f c') body t)
    (hall : (backToKw pos (keywordEach [⟨some "work", .Lambda params body scope lpos, kpos⟩] X.env)).all (·.1.isSome) = true := by rfl)
    (hks : (backToKw pos (keywordEach [⟨some "work", .Lambda params body scope lpos, kpos⟩] X.env)).filterMap (·.1) = [("work" : PySem.Str)] := by rfl)
    (hpl : ((backTo pos (starEach [] X.env)).any (·.1) || (backToKw pos (keywordEach [⟨some "work", .Lambda params body scope lpos, kpos⟩] X.env)).any (·.1.isNone)) = false := by rfl)
    (ht : eval (.Call (.Attribute o "within" apos) [] [⟨some "work", .Lambda params body scope lpos, kpos⟩] pos) X.env = (do
      let ov ← eval o X.env
      standAt apos.atName
      let (f, first) ← holding [ov] (getMethod ov "within" pl)
      callWith pos f first (backTo pos (starEach [] X.env)) (backToKw pos (keywordEach [⟨some "work", .Lambda params body scope lpos, kpos⟩] X.env))) := by rfl) :
    PE X (.Call (.Attribute o "within" apos) [] [⟨some "work", .Lambda params body scope lpos, kpos⟩] pos) (tWithin P (lamQ X) LC BC spI spE spX te t) := by
  refine ⟨fun pins s σ H Q I h => ?_⟩
  refine PySem.W.methodCall_KW (pl := pl) (thn (he.run pins s σ H _ I h) fun u s1 ⟨x, H1, I1, rx, a, dx, fs, ex, ea, l, hT, q⟩ => ?_) ht
  subst ex
  obtain rfl : u = Value.ref a := rx
  refine getmeth_ok I1 ea W.c W.m l (PySem.W.callWith_KW0 (first := [.ref a]) (h₀ := X.base) I.ok.mod.kin W.m.kp hall ?_ hpl)
  rw [hks]
  show wpAny _ _ (evalAll [do let v ← eval (.Lambda params body scope lpos) X.env; standAt pos; pure v]) _ _ s1
  refine wpAny_evalAll_cons (wpAny_bind (lam_made I1 TB hcode hT hdef (L.cellOf I.ok) fun f c' pm' ctv H2 s' I2 eN T2 hf hfn hfr hco => wpAny_bind (wpAny_standAt (wpAny_pure ?_))))
  refine wpAny_evalAll_nil ⟨I2.kIn, ?_⟩
  obtain ⟨oc, od, kV, doc, pm, an, cdv, ct, osl, efd, lk, hcd⟩ := W.F.ex
  have called : codeAny (model X.prog X.w) X.A (.call (.ref W.g) ⟨[.ref a], [(("work" : PySem.Str), .ref f)]⟩) (CR CX0 X.stack X.prog X.w H2 s' Q E0) s' := by
    have hb := hkb.to s' [.ref a] [.ref f] I2.kIn rfl rfl
    rw [hg] at hb
    rw [efd] at lk hb
    refine run_ofS (N := NW) (ps := ["self", "work"]) (us := [.ref a, .ref f]) (vs := [.ref a, .ref f]) lk hcd W.S hr I2.env0 hb (.cons rfl (.cons rfl .nil)) rfl fun hr' => ?_
    obtain ⟨p1, p2, p3, p4, p5, p6, p7, p8, p9, eb⟩ := W.body
    rw [eb]
    have worked := pe_act1 (CXg := CX0) (Eg := E0) (Ng := NW) (qg := "Live.within") (sg := defScope W.st) (g := W.g) (cdg := cdv) (k := k) (i := 1) (j := 2) (a := "work") (y := "given") (xe := fun _ _ => False) (E := E0) (tb := t) (p1 := p5) (p2 := p7) (p3 := p6)
      I2 L hp hf hfn hfr (fun u => hbind _ _ _ _ _ u) (passes_call (W := fun _ _ _ _ => False) LamX.takes0 (fun _ _ _ _ z => z)) (hr'.mono (by omega)) (fun A outer s H hr2 => hbody A outer s H f c' hr2) (pe_var rfl (.inl W.v1)) (pe_var rfl (.inl W.v2))
    refine ⟨_, (pss_one (X := inCx X CX0 E0 NW "Live.within" (defScope W.st) W.g cdv s' H2 fun _ _ => False) (ps_with (i := 2) (y := "given") (te := tMake BC spI [] E0 (tCons (tVar 0) tNil)) rfl W.S.nd rfl (.inl W.v2) (pe_make W.M W.Fi (hr'.mono (by omega)) W.gl W.mgB W.bI .nil pass0 (pa_cons (pe_var (i := 0) rfl (.inl W.v0)) pa_nil)) W.cE W.iE W.cX W.iX W.Fe W.Fx (hr'.mono (by omega)) W.bE W.bX (pss_one (ps_ret worked)) (.inr W.v2))).nox, ?_⟩
    exact q f c' H2 hco eN T2
  refine wpAny_call (codeAny_mono called fun r s2 hq => ?_)
  match r, hq with
  | .error e, hq => exact (show False from hq).elim
  | .ok (.ret u), hq => exact I2.after hq
  | .ok .next, hq => exact hq.elim
  | .ok .brk, hq => exact hq.elim
  | .ok .cont, hq => exact hq.elim
end
end Bk
namespace Bk
open PySem L2
def c_DIGITS : D := .str "0123456789"
def c_KINDS : D := .tup [.str "0", .str "1", .str "2", .str "3", .str "4", .str "5", .str "6"]
def c_LETTERS : D := .str "abcdefghijklmnopqrstuvwxyz"
def c_MOST_DIGITS : D := .int (9)
def c_NOUGHT : D := .tup [.int (0), .int (1)]
def c_ONE : D := .tup [.int (1), .int (1)]
def b_Desk_init : MS := (xsetf 0 4 0 xdnew)
def r_Desk_init : Mob → List D → Option (R × Mob) := runB 1 1 b_Desk_init
def b_Desk_has : MS := (xret (xcb cbAll (xcons (xlc (xseqI (xv 1)) (tgn 2) xtyes (xop (opDIn false) (xv 2) (xfldv 0 4 0)) [2]) xnil)))
def r_Desk_has : Mob → List D → Option (R × Mob) := runB 2 3 b_Desk_has
def b_text_of : MS := (xret (xif (xtest (xop opEq (xop opIx (xv 0) (xc (.int 1))) (xc (.int 1)))) (xcb cbStr (xcons (xop opIx (xv 0) (xc (.int 0))) xnil)) (xjs [(xfmt (xop opIx (xv 0) (xc (.int 0)))), (xc (.str "/")), (xfmt (xop opIx (xv 0) (xc (.int 1))))] Str.empty)))
def r_text_of : List D → Option R := runF 1 1 b_text_of
def b_Rule_str : MS := (xseq (xset 1 (xlst (xcons (xjoin (xc (.str " ")) (xlst (xcons (xc (.str "rule")) (xcons (xcall r_text_of (xcons (xfld 0 0 (xv 0)) xnil)) (xcons (xcall r_text_of (xcons (xfld 0 1 (xv 0)) xnil)) xnil))))) xnil)))
  (xseq (xset 1 (xlst (xstar (xv 1) (xstar (xlc (xseqI (xfld 0 2 (xv 0))) (tgt [(tgn 3), (tgn 4)]) xtyes (xjoin (xc (.str " ")) (xlst (xcons (xc (.str "at")) (xcons (xcall r_text_of (xcons (xv 3) xnil)) (xcons (xcall r_text_of (xcons (xv 4) xnil)) xnil))))) [3, 4]) xnil))))
  (xseq (xset 2 (xlc (xseqI (xfld 0 3 (xv 0))) (tgt [(tgn 5), (tgn 6), (tgn 7)]) xtyes (xjoin (xc (.str " ")) (xlst (xcons (xc (.str "over")) (xcons (xcall r_text_of (xcons (xv 5) xnil)) (xcons (xcall r_text_of (xcons (xv 6) xnil)) (xcons (xcall r_text_of (xcons (xv 7) xnil)) xnil)))))) [5, 6, 7]))
  (xret (xjoin (xc (.str "\n")) (xlst (xstar (xv 1) (xstar (xv 2) xnil))))))))
def r_Rule_str : List D → Option R := runF 1 8 b_Rule_str
def b_Rule_eq : MS := (xret (xvand (xcb (cbIsiC 0) (xcons (xv 1) (xcons (xc (.cl 0)) xnil))) (xop opEq (xcb (cbStrO 0 r_Rule_str) (xcons (xv 0) xnil)) (xcb (cbStrO 0 r_Rule_str) (xcons (xv 1) xnil)))))
def r_Rule_eq : List D → Option R := runF 2 2 b_Rule_eq
def b_is_sequence : MS := (xret (xcb cbIsiS (xcons (xv 0) (xcons (xtup (xcons (xc (.ty "list")) (xcons (xc (.ty "tuple")) xnil))) xnil))))
def r_is_sequence : List D → Option R := runF 1 1 b_is_sequence
def b_is_less : MS := (xret (xop opLt (xop opMul (xop opIx (xv 0) (xc (.int 0))) (xop opIx (xv 1) (xc (.int 1)))) (xop opMul (xop opIx (xv 1) (xc (.int 0))) (xop opIx (xv 0) (xc (.int 1))))))
def r_is_less : List D → Option R := runF 2 2 b_is_less
def b_is_integer : MS := (xret (xvand (xcb cbIsi (xcons (xv 0) (xcons (xc (.ty "int")) xnil))) (xvnot (xcb cbIsi (xcons (xv 0) (xcons (xc (.ty "bool")) xnil))))))
def r_is_integer : List D → Option R := runF 1 1 b_is_integer
def b_divisor_1 : MS := (ypar 0 1 (ycons (xv 1) (ycons (xop opMod (xv 0) (xv 1)) ynil)))
def b_divisor : MS := (xseq (ypar 0 1 (ycons (xcb cbAbs (xcons (xv 0) xnil)) (ycons (xcb cbAbs (xcons (xv 1) xnil)) ynil)))
  (xseq (xwhile (fuelI 1) (xtest (xop opNe (xv 1) (xc (.int 0)))) b_divisor_1)
  (xret (xmv 0))))
def r_divisor : List D → Option R := runF 2 2 b_divisor
def b_is_pair : MS := (xseq (xifs (xtor (xtnot (xtru (xcb cbIsi (xcons (xv 0) (xcons (xc (.ty "tuple")) xnil))))) (xtor (xtest (xop opNe (xcb cbLen (xcons (xv 0) xnil)) (xc (.int 2)))) (xtnot (xtru (xcb cbAll (xcons (xlc (xseqI (xv 0)) (tgn 1) xtyes (xcall r_is_integer (xcons (xv 1) xnil)) [1]) xnil)))))) (xret (xc (.bl false))) xnext)
  (xret (xvand (xop opGt (xop opIx (xv 0) (xc (.int 1))) (xc (.int 0))) (xop opEq (xcall r_divisor (xcons (xop opIx (xv 0) (xc (.int 0))) (xcons (xop opIx (xv 0) (xc (.int 1))) xnil))) (xc (.int 1))))))
def r_is_pair : List D → Option R := runF 1 2 b_is_pair
def b_is_value : MS := (xret (xvor (xcall r_is_integer (xcons (xv 0) xnil)) (xcall r_is_pair (xcons (xv 0) xnil))))
def r_is_value : List D → Option R := runF 1 1 b_is_value
def b_value_of : MS := (xret (xif (xtru (xcall r_is_integer (xcons (xv 0) xnil))) (xtup (xcons (xv 0) (xcons (xc (.int 1)) xnil))) (xv 0)))
def r_value_of : List D → Option R := runF 1 1 b_value_of
def b_is_between : MS := (xret (xvand (xcall r_is_value (xcons (xv 0) xnil)) (xvand (xvnot (xcall r_is_less (xcons (xcall r_value_of (xcons (xv 0) xnil)) (xcons (xv 1) xnil)))) (xvnot (xcall r_is_less (xcons (xv 2) (xcons (xcall r_value_of (xcons (xv 0) xnil)) xnil)))))))
def r_is_between : List D → Option R := runF 3 3 b_is_between
def b_is_share : MS := (xseq (xifs (xtor (xtnot (xtru (xcb cbIsi (xcons (xv 0) (xcons (xc (.ty "tuple")) xnil))))) (xtor (xtest (xop opNe (xcb cbLen (xcons (xv 0) xnil)) (xc (.int 3)))) (xtnot (xtru (xcall r_is_value (xcons (xop opIx (xv 0) (xc (.int 2))) xnil)))))) (xret (xc (.bl false))) xnext)
  (xseq (xifs (xtor (xtnot (xtru (xcall r_is_between (xcons (xop opIx (xv 0) (xc (.int 0))) (xcons (xv 1) (xcons (xv 2) xnil)))))) (xtnot (xtru (xcall r_is_between (xcons (xop opIx (xv 0) (xc (.int 1))) (xcons (xv 1) (xcons (xv 2) xnil))))))) (xret (xc (.bl false))) xnext)
  (xret (xcall r_is_less (xcons (xcall r_value_of (xcons (xop opIx (xv 0) (xc (.int 0))) xnil)) (xcons (xcall r_value_of (xcons (xop opIx (xv 0) (xc (.int 1))) xnil)) xnil))))))
def r_is_share : List D → Option R := runF 3 3 b_is_share
def b_is_weight : MS := (xseq (xifs (xtor (xtnot (xtru (xcb cbIsi (xcons (xv 0) (xcons (xc (.ty "tuple")) xnil))))) (xtest (xop opNe (xcb cbLen (xcons (xv 0) xnil)) (xc (.int 2))))) (xret (xc (.bl false))) xnext)
  (xret (xvand (xcall r_is_between (xcons (xop opIx (xv 0) (xc (.int 0))) (xcons (xv 1) (xcons (xv 2) xnil)))) (xcall r_is_value (xcons (xop opIx (xv 0) (xc (.int 1))) xnil)))))
def r_is_weight : List D → Option R := runF 3 3 b_is_weight
def b_ascending_1 : MS := (xset 1 (xop opFdiv (xop opMul (xv 1) (xv 3)) (xcall r_divisor (xcons (xv 1) (xcons (xv 3) xnil)))))
def b_ascending : MS := (xseq (xset 1 (xc (.int 1)))
  (xseq (xfor (xseqI (xv 0)) (tgt [(tgn 2), (tgn 3)]) b_ascending_1)
  (xseq (xset 4 (xcb cbSorted (xcons (xlc (xseqI (xv 0)) (tgn 5) xtyes (xtup (xcons (xop opMul (xop opIx (xv 5) (xc (.int 0))) (xop opFdiv (xv 1) (xop opIx (xv 5) (xc (.int 1))))) (xcons (xv 5) xnil))) [5]) xnil)))
  (xret (xlc (xenumA (xcons (xv 4) xnil)) (tgt [(tgn 6), (tgt [(tgn 7), (tgn 5)])]) (xtor (xtest (xop opEq (xv 6) (xc (.int 0)))) (xtest (xop opNe (xop opIx (xop opIx (xv 4) (xop opSub (xv 6) (xc (.int 1)))) (xc (.int 1))) (xv 5)))) (xv 5) [6, 7, 5])))))
def r_ascending : List D → Option R := runF 1 8 b_ascending
def b_lowest : MS := (xseq (xset 2 (xcall r_divisor (xcons (xv 0) (xcons (xv 1) xnil))))
  (xseq (xset 2 (xif (xtest (xop opLt (xv 1) (xc (.int 0)))) (xun unNeg (xv 2)) (xv 2)))
  (xret (xtup (xcons (xop opFdiv (xv 0) (xv 2)) (xcons (xop opFdiv (xv 1) (xv 2)) xnil))))))
def r_lowest : List D → Option R := runF 2 3 b_lowest
def b_added : MS := (xret (xcall r_lowest (xcons (xop opAddB (xop opMul (xop opIx (xv 0) (xc (.int 0))) (xop opIx (xv 1) (xc (.int 1)))) (xop opMul (xop opIx (xv 1) (xc (.int 0))) (xop opIx (xv 0) (xc (.int 1))))) (xcons (xop opMul (xop opIx (xv 0) (xc (.int 1))) (xop opIx (xv 1) (xc (.int 1)))) xnil))))
def r_added : List D → Option R := runF 2 2 b_added
def b_summed_1 : MS := (xset 1 (xcall r_added (xcons (xv 1) (xcons (xv 2) xnil))))
def b_summed : MS := (xseq (xset 1 (xc c_NOUGHT))
  (xseq (xfor (xseqI (xv 0)) (tgn 2) b_summed_1)
  (xret (xmv 1))))
def r_summed : List D → Option R := runF 1 3 b_summed
def b_least_shares_1 : MS := (xseq (xset 6 (xlc (xseqI (xv 1)) (tgt [(tgn 10), (tgn 11), (tgn 8)]) (xtand (xtnot (xtru (xcall r_is_less (xcons (xv 4) (xcons (xv 10) xnil))))) (xtnot (xtru (xcall r_is_less (xcons (xv 11) (xcons (xv 5) xnil)))))) (xv 8) [10, 11, 8]))
  (xseq (xset 7 (xcall r_summed (xcons (xv 6) xnil)))
  (xifs (xtand (xtest (xop opGt (xcb cbLen (xcons (xv 3) xnil)) (xc (.int 0)))) (xtest (xop opEq (xop opIx (xop opIx (xv 3) (xun unNeg (xc (.int 1)))) (xc (.int 2))) (xv 7)))) (xset 3 (xlst (xstar (xsl slB (xv 3) xnop (xpart (xun unNeg (xc (.int 1))))) (xcons (xtup (xcons (xop opIx (xop opIx (xv 3) (xun unNeg (xc (.int 1)))) (xc (.int 0))) (xcons (xv 5) (xcons (xv 7) xnil)))) xnil)))) (xset 3 (xlst (xstar (xv 3) (xcons (xtup (xcons (xv 4) (xcons (xv 5) (xcons (xv 7) xnil)))) xnil)))))))
def b_least_shares : MS := (xseq (xset 1 (xlc (xseqI (xv 0)) (tgt [(tgn 4), (tgn 5), (tgn 8)]) xtyes (xtup (xcons (xcall r_value_of (xcons (xv 4) xnil)) (xcons (xcall r_value_of (xcons (xv 5) xnil)) (xcons (xcall r_value_of (xcons (xv 8) xnil)) xnil)))) [4, 5, 8]))
  (xseq (xset 2 (xcall r_ascending (xcons (xlc2 (xseqI (xv 1)) (tgt [(tgn 4), (tgn 5), (tgn 8)]) xtyes (xseqI (xtup (xcons (xv 4) (xcons (xv 5) xnil)))) (tgn 9) xtyes (xv 9) [4, 5, 8, 9] [9]) xnil)))
  (xseq (xset 3 (xlst xnil))
  (xseq (xfor (xzipA (xcons (xv 2) (xcons (xsl slB (xv 2) (xpart (xc (.int 1))) xnop) xnil))) (tgt [(tgn 4), (tgn 5)]) b_least_shares_1)
  (xret (xcb cbTuple (xcons (xlc (xseqI (xv 3)) (tgn 12) (xtest (xop opNe (xop opIx (xv 12) (xc (.int 2))) (xc c_NOUGHT))) (xv 12) [12]) xnil)))))))
def r_least_shares : List D → Option R := runF 1 13 b_least_shares
def b_least_weights_1 : MS := (xapp 2 (xtup (xcons (xv 3) (xcons (xcall r_summed (xcons (xlc (xseqI (xv 1)) (tgt [(tgn 5), (tgn 4)]) (xtest (xop opEq (xv 5) (xv 3))) (xv 4) [5, 4]) xnil)) xnil))))
def b_least_weights : MS := (xseq (xset 1 (xlc (xseqI (xv 0)) (tgt [(tgn 3), (tgn 4)]) xtyes (xtup (xcons (xcall r_value_of (xcons (xv 3) xnil)) (xcons (xcall r_value_of (xcons (xv 4) xnil)) xnil))) [3, 4]))
  (xseq (xset 2 (xlst xnil))
  (xseq (xfor (xseqI (xcall r_ascending (xcons (xlc (xseqI (xv 1)) (tgt [(tgn 3), (tgn 4)]) xtyes (xv 3) [3, 4]) xnil))) (tgn 3) b_least_weights_1)
  (xret (xcb cbTuple (xcons (xlc (xseqI (xv 2)) (tgn 6) (xtest (xop opNe (xop opIx (xv 6) (xc (.int 1))) (xc c_NOUGHT))) (xv 6) [6]) xnil))))))
def r_least_weights : List D → Option R := runF 1 7 b_least_weights
def b_need_stretch : MS := (xseq (xifs (xtnot (xtru (xcall r_is_value (xcons (xv 0) xnil)))) xnever xnext)
  (xseq (xifs (xtor (xtnot (xtru (xcall r_is_value (xcons (xv 1) xnil)))) (xtnot (xtru (xcall r_is_less (xcons (xcall r_value_of (xcons (xv 0) xnil)) (xcons (xcall r_value_of (xcons (xv 1) xnil)) xnil)))))) xnever xnext)
  (xret (xtup (xcons (xcall r_value_of (xcons (xv 0) xnil)) (xcons (xcall r_value_of (xcons (xv 1) xnil)) xnil))))))
def r_need_stretch : List D → Option R := runF 2 2 b_need_stretch
def b_Rule_init : MS := (xseq (xasgF 0 0 0 1 (xcall r_need_stretch (xcons (xv 1) (xcons (xv 2) xnil))))
  (xseq (xifs (xtor (xtnot (xtru (xcall r_is_sequence (xcons (xv 3) xnil)))) (xtnot (xtru (xcb cbAll (xcons (xlc (xseqI (xv 3)) (tgn 5) xtyes (xcall r_is_weight (xcons (xv 5) (xcons (xfldv 0 0 0) (xcons (xfldv 0 0 1) xnil)))) [5]) xnil))))) xnever xnext)
  (xseq (xifs (xtor (xtnot (xtru (xcall r_is_sequence (xcons (xv 4) xnil)))) (xtnot (xtru (xcb cbAll (xcons (xlc (xseqI (xv 4)) (tgn 5) xtyes (xcall r_is_share (xcons (xv 5) (xcons (xfldv 0 0 0) (xcons (xfldv 0 0 1) xnil)))) [5]) xnil))))) xnever xnext)
  (xseq (xsetf 0 0 2 (xcall r_least_weights (xcons (xv 3) xnil)))
  (xsetf 0 0 3 (xcall r_least_shares (xcons (xv 4) xnil)))))))
def r_Rule_init : Mob → List D → Option (R × Mob) := runB 5 6 b_Rule_init
def b_Rule_neg : MS := (xseq (xset 1 (xlc (xseqI (xfld 0 2 (xv 0))) (tgt [(tgn 2), (tgt [(tgn 3), (tgn 4)])]) xtyes (xtup (xcons (xv 2) (xcons (xtup (xcons (xun unNeg (xv 3)) (xcons (xv 4) xnil))) xnil))) [2, 3, 4]))
  (xret (xmake 0 r_Rule_init ([.tup [], .tup []].drop 2) (xcons (xfld 0 0 (xv 0)) (xcons (xfld 0 1 (xv 0)) (xcons (xv 1) (xcons (xlc (xseqI (xfld 0 3 (xv 0))) (tgt [(tgn 5), (tgn 6), (tgt [(tgn 3), (tgn 4)])]) xtyes (xtup (xcons (xv 5) (xcons (xv 6) (xcons (xtup (xcons (xun unNeg (xv 3)) (xcons (xv 4) xnil))) xnil)))) [5, 6, 3, 4]) xnil)))))))
def r_Rule_neg : List D → Option R := runF 1 7 b_Rule_neg
def b_Rule_add : MS := (xseq (xifs (xtest (xop opNe (xtup (xcons (xfld 0 0 (xv 0)) (xcons (xfld 0 1 (xv 0)) xnil))) (xtup (xcons (xfld 0 0 (xv 1)) (xcons (xfld 0 1 (xv 1)) xnil))))) xnever xnext)
  (xret (xmake 0 r_Rule_init ([.tup [], .tup []].drop 2) (xcons (xfld 0 0 (xv 0)) (xcons (xfld 0 1 (xv 0)) (xcons (xlst (xstar (xfld 0 2 (xv 0)) (xstar (xfld 0 2 (xv 1)) xnil))) (xcons (xlst (xstar (xfld 0 3 (xv 0)) (xstar (xfld 0 3 (xv 1)) xnil))) xnil)))))))
def r_Rule_add : List D → Option R := runF 2 2 b_Rule_add
def b_Rule_sub : MS := (xret (xop (opOwn 0 r_Rule_add opAddB) (xv 0) (xun (unOwn 0 r_Rule_neg unNeg) (xv 1))))
def r_Rule_sub : List D → Option R := runF 2 2 b_Rule_sub
def b_trimmed_1 : MS := (xaug 1 opSub (xc (.int 1)))
def b_trimmed : MS := (xseq (xset 1 (xcb cbLen (xcons (xv 0) xnil)))
  (xseq (xwhile (fun _ => 1000) (xtand (xtest (xop opGt (xv 1) (xc (.int 0)))) (xtest (xop opEq (xop opIx (xv 0) (xop opSub (xv 1) (xc (.int 1)))) (xc (.int 0))))) b_trimmed_1)
  (xret (xcb cbTuple (xcons (xsl slB (xv 0) xnop (xpart (xv 1))) xnil)))))
def r_trimmed : List D → Option R := runF 1 2 b_trimmed
def b_integers_of_1 : MS := (xset 1 (xop opMul (xv 1) (xop opIx (xv 2) (xc (.int 1)))))
def b_integers_of : MS := (xseq (xset 1 (xc (.int 1)))
  (xseq (xfor (xseqI (xv 0)) (tgn 2) b_integers_of_1)
  (xret (xcall r_trimmed (xcons (xlc (xseqI (xv 0)) (tgt [(tgn 3), (tgn 4)]) xtyes (xop opMul (xv 3) (xop opFdiv (xv 1) (xv 4))) [3, 4]) xnil)))))
def r_integers_of : List D → Option R := runF 1 5 b_integers_of
def b_quotient : MS := (xret (xcall r_lowest (xcons (xop opMul (xop opIx (xv 0) (xc (.int 0))) (xop opIx (xv 1) (xc (.int 1)))) (xcons (xop opMul (xop opIx (xv 0) (xc (.int 1))) (xop opIx (xv 1) (xc (.int 0)))) xnil))))
def r_quotient : List D → Option R := runF 2 2 b_quotient
def b_area_powers : MS := (xret (xlst (xcons (xc c_NOUGHT) (xstar (xlc (xenumA (xcons (xv 0) xnil)) (tgt [(tgn 1), (tgn 2)]) xtyes (xcall r_quotient (xcons (xv 2) (xcons (xtup (xcons (xop opAddB (xv 1) (xc (.int 1))) (xcons (xc (.int 1)) xnil))) xnil))) [1, 2]) xnil))))
def r_area_powers : List D → Option R := runF 1 3 b_area_powers
def b_less_by : MS := (xret (xcall r_lowest (xcons (xop opSub (xop opMul (xop opIx (xv 0) (xc (.int 0))) (xop opIx (xv 1) (xc (.int 1)))) (xop opMul (xop opIx (xv 1) (xc (.int 0))) (xop opIx (xv 0) (xc (.int 1))))) (xcons (xop opMul (xop opIx (xv 0) (xc (.int 1))) (xop opIx (xv 1) (xc (.int 1)))) xnil))))
def r_less_by : List D → Option R := runF 2 2 b_less_by
def b_multiplied : MS := (xret (xcall r_lowest (xcons (xop opMul (xop opIx (xv 0) (xc (.int 0))) (xop opIx (xv 1) (xc (.int 0)))) (xcons (xop opMul (xop opIx (xv 0) (xc (.int 1))) (xop opIx (xv 1) (xc (.int 1)))) xnil))))
def r_multiplied : List D → Option R := runF 2 2 b_multiplied
def b_value_at_rules_1 : MS := (xset 2 (xcall r_added (xcons (xcall r_multiplied (xcons (xv 2) (xcons (xv 1) xnil))) (xcons (xv 3) xnil))))
def b_value_at_rules : MS := (xseq (xset 2 (xc c_NOUGHT))
  (xseq (xfor (xseqI (xrev (xv 0) (xun unNeg (xc (.int 1))))) (tgn 3) b_value_at_rules_1)
  (xret (xmv 2))))
def r_value_at_rules : List D → Option R := runF 2 4 b_value_at_rules
def b_told_1 : MS := (xapp 4 (xcall r_multiplied (xcons (xv 7) (xcons (xcall r_less_by (xcons (xcall r_value_at_rules (xcons (xv 3) (xcons (xv 6) xnil))) (xcons (xcall r_value_at_rules (xcons (xv 3) (xcons (xv 5) xnil))) xnil))) xnil))))
def b_told : MS := (xseq (xset 2 (xlc (xseqI (xv 1)) (tgn 8) xtyes (xcall r_value_of (xcons (xv 8) xnil)) [8]))
  (xseq (xset 3 (xcall r_area_powers (xcons (xv 2) xnil)))
  (xseq (xset 4 (xlc (xseqI (xfld 0 2 (xv 0))) (tgt [(tgn 9), (tgn 10)]) xtyes (xcall r_multiplied (xcons (xv 10) (xcons (xcall r_value_at_rules (xcons (xv 2) (xcons (xv 9) xnil))) xnil))) [9, 10]))
  (xseq (xfor (xseqI (xfld 0 3 (xv 0))) (tgt [(tgn 5), (tgn 6), (tgn 7)]) b_told_1)
  (xret (xcall r_summed (xcons (xv 4) xnil)))))))
def r_told : List D → Option R := runF 2 11 b_told
def b_degree_1 : MS := (xset 1 (xlst (xcons (xc c_NOUGHT) (xstar (xv 1) xnil))))
def b_degree : MS := (xseq (xifs (xtest (xop opEq (xop opAddB (xcb cbLen (xcons (xfld 0 2 (xv 0)) xnil)) (xcb cbLen (xcons (xfld 0 3 (xv 0)) xnil))) (xc (.int 0)))) (xret (xc .non)) xnext)
  (xseq (xset 1 (xlst (xcons (xc c_ONE) xnil)))
  (xseq (xwhile (fun _ => 1000) (xtest (xop opEq (xcall r_told (xcons (xv 0) (xcons (xv 1) xnil))) (xc c_NOUGHT))) b_degree_1)
  (xret (xop opSub (xcb cbLen (xcons (xv 1) xnil)) (xc (.int 2)))))))
def r_degree : List D → Option R := runF 1 2 b_degree
def b_is_exact_enough : MS := (xseq (xset 2 (xcall r_degree (xcons (xv 0) xnil)))
  (xret (xvor (xop opIs (xv 2) (xc .non)) (xop opGe (xv 2) (xop opSub (xv 1) (xc (.int 1)))))))
def r_is_exact_enough : List D → Option R := runF 2 3 b_is_exact_enough
def b_plus_1 : MS := (xseq (xset 6 (xif (xtest (xop opLt (xv 5) (xcb cbLen (xcons (xv 0) xnil)))) (xop opIx (xv 0) (xv 5)) (xc (.int 0))))
  (xapp 4 (xop opAddB (xv 6) (xif (xtest (xop opLt (xv 5) (xcb cbLen (xcons (xv 1) xnil)))) (xop opMul (xv 2) (xop opIx (xv 1) (xv 5))) (xc (.int 0))))))
def b_plus : MS := (xseq (xset 3 (xcb cbMax2 (xcons (xcb cbLen (xcons (xv 0) xnil)) (xcons (xcb cbLen (xcons (xv 1) xnil)) xnil))))
  (xseq (xset 4 (xlst xnil))
  (xseq (xfor (xrange1 (xcons (xv 3) xnil)) (tgn 5) b_plus_1)
  (xret (xcall r_trimmed (xcons (xv 4) xnil))))))
def r_plus : List D → Option R := runF 3 7 b_plus
def b_primitive_1 : MS := (xset 1 (xcall r_divisor (xcons (xv 1) (xcons (xv 2) xnil))))
def b_primitive : MS := (xseq (xset 1 (xc (.int 0)))
  (xseq (xfor (xseqI (xv 0)) (tgn 2) b_primitive_1)
  (xret (xif (xtest (xop opLt (xv 1) (xc (.int 2)))) (xv 0) (xcb cbTuple (xcons (xlc (xseqI (xv 0)) (tgn 2) xtyes (xop opFdiv (xv 2) (xv 1)) [2]) xnil))))))
def r_primitive : List D → Option R := runF 1 3 b_primitive
def b_product_1 : MS := (xaugs 2 opAddI (xop opAddB (xv 3) (xv 5)) (xop opMul (xv 4) (xv 6)))
def b_product_2 : MS := (xfor (xenumA (xcons (xv 1) xnil)) (tgt [(tgn 5), (tgn 6)]) b_product_1)
def b_product : MS := (xseq (xifs (xtor (xtest (xop opEq (xv 0) (xtup xnil))) (xtest (xop opEq (xv 1) (xtup xnil)))) (xret (xtup xnil)) xnext)
  (xseq (xset 2 (xlc (xrange1 (xcons (xop opSub (xop opAddB (xcb cbLen (xcons (xv 0) xnil)) (xcb cbLen (xcons (xv 1) xnil))) (xc (.int 1))) xnil)) (tgn 7) xtyes (xc (.int 0)) [7]))
  (xseq (xfor (xenumA (xcons (xv 0) xnil)) (tgt [(tgn 3), (tgn 4)]) b_product_2)
  (xret (xcall r_trimmed (xcons (xv 2) xnil))))))
def r_product : List D → Option R := runF 2 8 b_product
def b_sign_of : MS := (xret (xop opSub (xcb cbInt (xcons (xop opGt (xv 0) (xc (.int 0))) xnil)) (xcb cbInt (xcons (xop opLt (xv 0) (xc (.int 0))) xnil))))
def r_sign_of : List D → Option R := runF 1 1 b_sign_of
def b_parted_1 : MS := (xset 7 (xcall r_divisor (xcons (xv 7) (xcons (xv 8) xnil))))
def b_parted_2 : MS := (xseq (xset 5 (xop opMul (xcall r_sign_of (xcons (xop opIx (xv 1) (xun unNeg (xc (.int 1)))) xnil)) (xop opIx (xv 3) (xun unNeg (xc (.int 1))))))
  (xseq (xset 6 (xop opMulC (xtup (xcons (xc (.int 0)) xnil)) (xop opSub (xcb cbLen (xcons (xv 3) xnil)) (xcb cbLen (xcons (xv 1) xnil)))))
  (xseq (xset 4 (xcallD r_plus ([.int (1)].drop 0) (xcons (xlc (xseqI (xv 4)) (tgn 8) xtyes (xop opMul (xv 2) (xv 8)) [8]) (xcons (xtup (xstar (xv 6) (xcons (xv 5) xnil))) xnil))))
  (xseq (xset 3 (xcallD r_plus ([.int (1)].drop 1) (xcons (xlc (xseqI (xv 3)) (tgn 8) xtyes (xop opMul (xv 2) (xv 8)) [8]) (xcons (xcall r_product (xcons (xtup (xstar (xv 6) (xcons (xc (.int 1)) xnil))) (xcons (xv 1) xnil))) (xcons (xun unNeg (xv 5)) xnil)))))
  (xseq (xset 7 (xc (.int 0)))
  (xseq (xfor (xseqI (xtup (xstar (xv 4) (xstar (xv 3) xnil)))) (tgn 8) b_parted_1)
  (xifs (xtest (xop opGt (xv 7) (xc (.int 1)))) (xseq (xset 4 (xcb cbTuple (xcons (xlc (xseqI (xv 4)) (tgn 8) xtyes (xop opFdiv (xv 8) (xv 7)) [8]) xnil)))
  (xset 3 (xcb cbTuple (xcons (xlc (xseqI (xv 3)) (tgn 8) xtyes (xop opFdiv (xv 8) (xv 7)) [8]) xnil)))) xnext)))))))
def b_parted : MS := (xseq (xasg (xtup (xcons (xcb cbAbs (xcons (xop opIx (xv 1) (xun unNeg (xc (.int 1)))) xnil)) (xcons (xv 0) (xcons (xtup xnil) xnil)))) (tgt [(tgn 2), (tgn 3), (tgn 4)]))
  (xseq (xwhile (fun _ => 1000) (xtest (xop opGe (xcb cbLen (xcons (xv 3) xnil)) (xcb cbLen (xcons (xv 1) xnil)))) b_parted_2)
  (xret (xtup (xcons (xcall r_primitive (xcons (xv 4) xnil)) (xcons (xcall r_primitive (xcons (xv 3) xnil)) xnil))))))
def r_parted : List D → Option R := runF 2 9 b_parted
def b_rest : MS := (xret (xop opIx (xcall r_parted (xcons (xv 0) (xcons (xv 1) xnil))) (xc (.int 1))))
def r_rest : List D → Option R := runF 2 2 b_rest
def b_upright : MS := (xseq (xset 1 (xcall r_primitive (xcons (xv 0) xnil)))
  (xret (xif (xtor (xtest (xop opEq (xv 1) (xtup xnil))) (xtest (xop opGt (xop opIx (xv 1) (xun unNeg (xc (.int 1)))) (xc (.int 0))))) (xv 1) (xcb cbTuple (xcons (xlc (xseqI (xv 1)) (tgn 2) xtyes (xun unNeg (xv 2)) [2]) xnil)))))
def r_upright : List D → Option R := runF 1 3 b_upright
def b_common_1 : MS := (ypar 0 1 (ycons (xv 1) (ycons (xcall r_rest (xcons (xv 0) (xcons (xv 1) xnil))) ynil)))
def b_common : MS := (xseq (xwhile (fun _ => 1000) (xtest (xop opNe (xv 1) (xtup xnil))) b_common_1)
  (xret (xcall r_upright (xcons (xv 0) xnil))))
def r_common : List D → Option R := runF 2 2 b_common
def b_derived : MS := (xret (xcall r_trimmed (xcons (xsl slB (xlc (xenumA (xcons (xv 0) xnil)) (tgt [(tgn 1), (tgn 2)]) xtyes (xop opMul (xv 1) (xv 2)) [1, 2]) (xpart (xc (.int 1))) xnop) xnil)))
def r_derived : List D → Option R := runF 1 3 b_derived
def b_divided : MS := (xret (xop opIx (xcall r_parted (xcons (xv 0) (xcons (xv 1) xnil))) (xc (.int 0))))
def r_divided : List D → Option R := runF 2 2 b_divided
def b_parts_of_1 : MS := (xseq (xaug 4 opAddI (xc (.int 1)))
  (xseq (xset 5 (xcall r_common (xcons (xv 2) (xcons (xv 1) xnil))))
  (xseq (xset 6 (xcall r_upright (xcons (xcall r_divided (xcons (xv 2) (xcons (xv 5) xnil))) xnil)))
  (xseq (xifs (xtest (xop opGt (xcb cbLen (xcons (xv 6) xnil)) (xc (.int 1)))) (xapp 3 (xtup (xcons (xv 4) (xcons (xv 6) xnil)))) xnext)
  (ypar 2 1 (ycons (xv 5) (ycons (xcall r_divided (xcons (xv 1) (xcons (xv 5) xnil))) ynil)))))))
def b_parts_of : MS := (xseq (xset 1 (xcall r_common (xcons (xv 0) (xcons (xcall r_derived (xcons (xv 0) xnil)) xnil))))
  (xseq (ypar3 2 3 4 (ycons (xcall r_upright (xcons (xcall r_divided (xcons (xv 0) (xcons (xv 1) xnil))) xnil)) (ycons (xlst xnil) (ycons (xc (.int 0)) ynil))))
  (xseq (xwhile (fun _ => 1000) (xtest (xop opGt (xcb cbLen (xcons (xv 2) xnil)) (xc (.int 1)))) b_parts_of_1)
  (xret (xcb cbTuple (xcons (xv 3) xnil))))))
def r_parts_of : List D → Option R := runF 1 7 b_parts_of
def b_chain_of_1 : MS := (xapp 1 (xcb cbTuple (xcons (xlc (xseqI (xcall r_rest (xcons (xby 1 (xixv 1 (xun unNeg (xc (.int 2)))) (xop opIx (xv 1) (xun unNeg (xc (.int 2))))) (xcons (xby 1 (xixv 1 (xun unNeg (xc (.int 1)))) (xop opIx (xv 1) (xun unNeg (xc (.int 1))))) xnil)))) (tgn 2) xtyes (xun unNeg (xv 2)) [2]) xnil)))
def b_chain_of : MS := (xseq (xifs (xtest (xop opLt (xcb cbLen (xcons (xv 0) xnil)) (xc (.int 2)))) (xret (xtup (xcons (xv 0) xnil))) xnext)
  (xseq (xset 1 (xlst (xcons (xv 0) (xcons (xcall r_primitive (xcons (xcall r_derived (xcons (xv 0) xnil)) xnil)) xnil))))
  (xseq (xwhile (fun _ => 1000) (xtest (xop opGt (xcb cbLen (xcons (xby 1 (xixv 1 (xun unNeg (xc (.int 1)))) (xop opIx (xv 1) (xun unNeg (xc (.int 1))))) xnil)) (xc (.int 1)))) b_chain_of_1)
  (xret (xcb cbTuple (xcons (xv 1) xnil))))))
def r_chain_of : List D → Option R := runF 1 3 b_chain_of
def b_sign_changes : MS := (xseq (xset 1 (xlc (xseqI (xv 0)) (tgn 2) (xtest (xop opNe (xv 2) (xc (.int 0)))) (xv 2) [2]))
  (xret (xcb cbLen (xcons (xlc (xzipA (xcons (xv 1) (xcons (xsl slB (xv 1) (xpart (xc (.int 1))) xnop) xnil))) (tgt [(tgn 3), (tgn 4)]) (xtest (xop opNe (xv 3) (xv 4))) (xc (.int 1)) [3, 4]) xnil))))
def r_sign_changes : List D → Option R := runF 1 5 b_sign_changes
def b_value_at_polys_1 : MS := (xseq (xset 2 (xop opAddB (xop opMul (xv 2) (xop opIx (xv 1) (xc (.int 0)))) (xop opMul (xv 4) (xv 3))))
  (xset 3 (xop opMul (xv 3) (xop opIx (xv 1) (xc (.int 1))))))
def b_value_at_polys : MS := (xseq (xasg (xtup (xcons (xc (.int 0)) (xcons (xc (.int 1)) xnil))) (tgt [(tgn 2), (tgn 3)]))
  (xseq (xfor (xseqI (xrevA (xv 0) (xun unNeg (xc (.int 1))))) (tgn 4) b_value_at_polys_1)
  (xret (xmv 2))))
def r_value_at_polys : List D → Option R := runF 2 5 b_value_at_polys
def b_changes_at : MS := (xret (xcall r_sign_changes (xcons (xlc (xseqI (xv 0)) (tgn 2) xtyes (xcall r_sign_of (xcons (xcall r_value_at_polys (xcons (xv 2) (xcons (xv 1) xnil))) xnil)) [2]) xnil)))
def r_changes_at : List D → Option R := runF 2 3 b_changes_at
def b_once_each : MS := (xret (xcall r_upright (xcons (xcall r_divided (xcons (xv 0) (xcons (xcall r_common (xcons (xv 0) (xcons (xcall r_derived (xcons (xv 0) xnil)) xnil))) xnil))) xnil)))
def r_once_each : List D → Option R := runF 1 1 b_once_each
def b_roots_between : MS := (xseq (xifs (xtest (xop opLt (xcb cbLen (xcons (xv 0) xnil)) (xc (.int 2)))) (xret (xc (.int 0))) xnext)
  (xseq (xset 3 (xcall r_chain_of (xcons (xcall r_once_each (xcons (xv 0) xnil)) xnil)))
  (xret (xop opSub (xcall r_changes_at (xcons (xv 3) (xcons (xv 1) xnil))) (xcall r_changes_at (xcons (xv 3) (xcons (xv 2) xnil)))))))
def r_roots_between : List D → Option R := runF 3 4 b_roots_between
def b_without_ends_1 : MS := (xseq (xset 0 (xcall r_divided (xcons (xv 0) (xcons (xv 5) xnil))))
  (xaug 6 opAddI (xc (.int 1))))
def b_without_ends_2 : MS := (xseq (xset 6 (xc (.int 0)))
  (xseq (xwhile (fun _ => 1000) (xtest (xop opEq (xcall r_value_at_polys (xcons (xv 0) (xcons (xv 4) xnil))) (xc (.int 0)))) b_without_ends_1)
  (xapp 3 (xv 6))))
def b_without_ends : MS := (xseq (xset 3 (xlst xnil))
  (xseq (xfor (xseqI (xtup (xcons (xtup (xcons (xv 1) (xcons (xtup (xcons (xun unNeg (xop opIx (xv 1) (xc (.int 0)))) (xcons (xop opIx (xv 1) (xc (.int 1))) xnil))) xnil))) (xcons (xtup (xcons (xv 2) (xcons (xtup (xcons (xop opIx (xv 2) (xc (.int 0))) (xcons (xun unNeg (xop opIx (xv 2) (xc (.int 1)))) xnil))) xnil))) xnil)))) (tgt [(tgn 4), (tgn 5)]) b_without_ends_2)
  (xret (xtup (xcons (xby 3 (xixv 3 (xc (.int 0))) (xop opIx (xv 3) (xc (.int 0)))) (xcons (xby 3 (xixv 3 (xc (.int 1))) (xop opIx (xv 3) (xc (.int 1)))) (xcons (xv 0) xnil)))))))
def r_without_ends : List D → Option R := runF 3 7 b_without_ends
def b_is_nowhere_below : MS := (xseq (xifs (xtest (xop opEq (xv 0) (xtup xnil))) (xret (xc (.bl true))) xnext)
  (xseq (xset 3 (xop opIx (xcall r_without_ends (xcons (xv 0) (xcons (xv 1) (xcons (xv 2) xnil)))) (xc (.int 2))))
  (xseq (xifs (xtest (xop opLt (xcall r_value_at_polys (xcons (xv 3) (xcons (xv 2) xnil))) (xc (.int 0)))) (xret (xc (.bl false))) xnext)
  (xret (xcb cbAll (xcons (xlc (xseqI (xcall r_parts_of (xcons (xv 3) xnil))) (tgt [(tgn 4), (tgn 5)]) xtyes (xvor (xop opEq (xop opMod (xv 4) (xc (.int 2))) (xc (.int 0))) (xop opEq (xcall r_roots_between (xcons (xv 5) (xcons (xv 1) (xcons (xv 2) xnil)))) (xc (.int 0)))) [4, 5]) xnil))))))
def r_is_nowhere_below : List D → Option R := runF 3 6 b_is_nowhere_below
def b_knots_of_1 : MS := (xset 1 (xlst (xstar (xv 1) (xcons (xv 2) (xcons (xv 3) xnil)))))
def b_knots_of_2 : MS := (xset 5 (xop opMul (xv 5) (xop opIx (xv 6) (xc (.int 1)))))
def b_knots_of : MS := (xseq (xset 1 (xlst (xcons (xfld 0 0 (xv 0)) (xcons (xfld 0 1 (xv 0)) (xstar (xlc (xseqI (xfld 0 2 (xv 0))) (tgt [(tgn 7), (tgn 8)]) xtyes (xv 7) [7, 8]) xnil)))))
  (xseq (xfor (xseqI (xfld 0 3 (xv 0))) (tgt [(tgn 2), (tgn 3), (tgn 4)]) b_knots_of_1)
  (xseq (xset 5 (xc (.int 1)))
  (xseq (xfor (xseqI (xv 1)) (tgn 6) b_knots_of_2)
  (xret (xlc (xseqI (xcb cbSortSet (xcons (xlc (xseqI (xv 1)) (tgt [(tgn 9), (tgn 10)]) xtyes (xcb cbInt (xcons (xop opMul (xv 9) (xop opFdiv (xv 5) (xv 10))) xnil)) [9, 10]) xnil))) (tgn 11) xtyes (xcall r_lowest (xcons (xv 11) (xcons (xv 5) xnil))) [11]))))))
def r_knots_of : List D → Option R := runF 1 12 b_knots_of
def b_powered_1 : MS := (xset 2 (xcall r_multiplied (xcons (xv 2) (xcons (xv 0) xnil))))
def b_powered : MS := (xseq (xset 2 (xc c_ONE))
  (xseq (xfor (xrange1 (xcons (xv 1) xnil)) (tgn 3) b_powered_1)
  (xret (xmv 2))))
def r_powered : List D → Option R := runF 2 4 b_powered
def b_ways_1 : MS := (xset 2 (xop opFdiv (xop opMul (xv 2) (xop opSub (xv 0) (xv 3))) (xop opAddB (xv 3) (xc (.int 1)))))
def b_ways : MS := (xseq (xset 2 (xc (.int 1)))
  (xseq (xfor (xrange1 (xcons (xv 1) xnil)) (tgn 3) b_ways_1)
  (xret (xmv 2))))
def r_ways : List D → Option R := runF 2 4 b_ways
def b_distance_power_1 : MS := (xseq (xset 5 (xif (xtest (xop opEq (xop opMod (xv 4) (xc (.int 2))) (xc (.int 0)))) (xc (.int 1)) (xun unNeg (xc (.int 1)))))
  (xapp 3 (xcall r_multiplied (xcons (xcall r_multiplied (xcons (xtup (xcons (xop opMul (xv 5) (xcall r_ways (xcons (xv 1) (xcons (xv 4) xnil)))) (xcons (xc (.int 1)) xnil))) (xcons (xcall r_powered (xcons (xv 0) (xcons (xop opSub (xv 1) (xv 4)) xnil))) xnil))) (xcons (xv 2) xnil)))))
def b_distance_power : MS := (xseq (xset 3 (xlst xnil))
  (xseq (xfor (xrange1 (xcons (xop opAddB (xv 1) (xc (.int 1))) xnil)) (tgn 4) b_distance_power_1)
  (xret (xmv 3))))
def r_distance_power : List D → Option R := runF 3 6 b_distance_power
def b_sum_of : MS := (xseq (xset 2 (xlst (xstar (xv 0) (xstar (xlc (xrange1 (xcons (xop opSub (xcb cbLen (xcons (xv 1) xnil)) (xcb cbLen (xcons (xv 0) xnil))) xnil)) (tgn 3) xtyes (xc c_NOUGHT) [3]) xnil))))
  (xret (xlc (xzipA (xcons (xv 2) (xcons (xv 1) xnil))) (tgt [(tgn 4), (tgn 5)]) xtyes (xcall r_added (xcons (xv 4) (xcons (xv 5) xnil))) [4, 5])))
def r_sum_of : List D → Option R := runF 2 6 b_sum_of
def b_piece_1 : MS := (xifs (xtnot (xtru (xcall r_is_less (xcons (xv 5) (xcons (xv 3) xnil))))) (xset 4 (xcall r_sum_of (xcons (xcall r_distance_power (xcons (xv 5) (xcons (xop opSub (xv 1) (xc (.int 1))) (xcons (xv 6) xnil)))) (xcons (xv 4) xnil)))) xnext)
def b_piece_2 : MS := (xseq (xset 10 (xcall r_multiplied (xcons (xv 9) (xcons (xtup (xcons (xc (.int 1)) (xcons (xv 1) xnil))) xnil))))
  (xseq (xifs (xtnot (xtru (xcall r_is_less (xcons (xv 8) (xcons (xv 3) xnil))))) (xset 4 (xcall r_sum_of (xcons (xcall r_distance_power (xcons (xv 8) (xcons (xv 1) (xcons (xv 10) xnil)))) (xcons (xv 4) xnil)))) xnext)
  (xifs (xtnot (xtru (xcall r_is_less (xcons (xv 7) (xcons (xv 3) xnil))))) (xset 4 (xcall r_sum_of (xcons (xcall r_distance_power (xcons (xv 7) (xcons (xv 1) (xcons (xcall r_less_by (xcons (xc c_NOUGHT) (xcons (xv 10) xnil))) xnil)))) (xcons (xv 4) xnil)))) xnext)))
def b_piece : MS := (xseq (xset 4 (xlc (xrange1 (xcons (xop opAddB (xv 1) (xc (.int 1))) xnil)) (tgn 11) xtyes (xc c_NOUGHT) [11]))
  (xseq (xfor (xseqI (xfld 0 2 (xv 0))) (tgt [(tgn 5), (tgn 6)]) b_piece_1)
  (xseq (xfor (xseqI (xfld 0 3 (xv 0))) (tgt [(tgn 7), (tgn 8), (tgn 9)]) b_piece_2)
  (xret (xcb cbTuple (xcons (xv 4) xnil))))))
def r_piece : List D → Option R := runF 4 12 b_piece
def b_kernel : MS := (xseq (xset 2 (xcall r_knots_of (xcons (xv 0) xnil)))
  (xret (xcb cbTuple (xcons (xlc (xzipA (xcons (xv 2) (xcons (xsl slB (xv 2) (xpart (xc (.int 1))) xnop) xnil))) (tgt [(tgn 3), (tgn 4)]) xtyes (xtup (xcons (xv 3) (xcons (xv 4) (xcons (xcall r_piece (xcons (xv 0) (xcons (xv 1) (xcons (xv 3) (xcons (xv 4) xnil))))) xnil)))) [3, 4]) xnil))))
def r_kernel : List D → Option R := runF 2 5 b_kernel
def b_never_below : MS := (xseq (xifs (xtest (xop opEq (xv 1) (xc (.int 0)))) (xseq (xset 2 (xlst (xstar (xlc (xseqI (xfld 0 2 (xv 0))) (tgt [(tgn 3), (tgn 4)]) xtyes (xv 4) [3, 4]) (xstar (xlc (xseqI (xfld 0 3 (xv 0))) (tgt [(tgn 5), (tgn 6), (tgn 7)]) xtyes (xv 7) [5, 6, 7]) xnil))))
  (xret (xcb cbAll (xcons (xlc (xseqI (xv 2)) (tgn 8) xtyes (xop opGt (xop opIx (xv 8) (xc (.int 0))) (xc (.int 0))) [8]) xnil)))) xnext)
  (xseq (xifs (xtnot (xtru (xcall r_is_exact_enough (xcons (xv 0) (xcons (xv 1) xnil))))) (xret (xc (.bl false))) xnext)
  (xret (xcb cbAll (xcons (xlc (xseqI (xcall r_kernel (xcons (xv 0) (xcons (xv 1) xnil)))) (tgt [(tgn 5), (tgn 6), (tgn 9)]) xtyes (xcall r_is_nowhere_below (xcons (xcall r_integers_of (xcons (xv 9) xnil)) (xcons (xv 5) (xcons (xv 6) xnil)))) [5, 6, 9]) xnil)))))
def r_never_below : List D → Option R := runF 2 10 b_never_below
def b_compare : MS := (xseq (xset 3 (xop (opOwn 0 r_Rule_sub opSub) (xv 0) (xv 1)))
  (xseq (xifs (xtest (xop (opOwn 0 r_Rule_eq opEq) (xv 0) (xv 1))) (xret (xc (.str "same"))) xnext)
  (xseq (xifs (xtru (xcall r_never_below (xcons (xun (unOwn 0 r_Rule_neg unNeg) (xv 3)) (xcons (xv 2) xnil)))) (xret (xc (.str "below"))) xnext)
  (xret (xif (xtru (xcall r_never_below (xcons (xv 3) (xcons (xv 2) xnil)))) (xc (.str "above")) (xc (.str "apart")))))))
def r_compare : List D → Option R := runF 3 4 b_compare
def b_need : MS := (xifs (xtnot (xtru (xv 0))) xnever xnext)
def r_need : List D → Option R := runF 1 1 b_need
def b_Desk_answer : MS := (xseq (xifs (xtest (xop opEq (xv 1) (xc (.str "compare")))) (xseq (xdrop (xcall r_need (xcons (xvand (xop opEq (xcb cbLen (xcons (xv 2) xnil)) (xc (.int 3))) (xvand (xmethB 0 4 r_Desk_has [] (xcons (xsl slB (xv 2) xnop (xpart (xc (.int 2)))) xnil)) (xop (opInB false) (xop opIx (xv 2) (xc (.int 2))) (xc c_KINDS)))) xnil)))
  (xret (xcall r_compare (xcons (xdget (xfldv 0 4 0) (xop opIx (xv 2) (xc (.int 0)))) (xcons (xdget (xfldv 0 4 0) (xop opIx (xv 2) (xc (.int 1)))) (xcons (xcb cbIntS (xcons (xop opIx (xv 2) (xc (.int 2))) xnil)) xnil)))))) xnext)
  (xseq (xifs (xtest (xop opEq (xv 1) (xc (.str "kind")))) (xseq (xdrop (xcall r_need (xcons (xvand (xop opEq (xcb cbLen (xcons (xv 2) xnil)) (xc (.int 2))) (xvand (xmethB 0 4 r_Desk_has [] (xcons (xsl slB (xv 2) xnop (xpart (xc (.int 1)))) xnil)) (xop (opInB false) (xop opIx (xv 2) (xc (.int 1))) (xc c_KINDS)))) xnil)))
  (xret (xif (xtru (xcall r_never_below (xcons (xdget (xfldv 0 4 0) (xop opIx (xv 2) (xc (.int 0)))) (xcons (xcb cbIntS (xcons (xop opIx (xv 2) (xc (.int 1))) xnil)) xnil)))) (xc (.str "yes")) (xc (.str "no"))))) xnext)
  (xseq (xdrop (xcall r_need (xcons (xvand (xop (opInB false) (xv 1) (xtup (xcons (xc (.str "degree")) (xcons (xc (.str "drop")) xnil)))) (xvand (xop opEq (xcb cbLen (xcons (xv 2) xnil)) (xc (.int 1))) (xmethB 0 4 r_Desk_has [] (xcons (xv 2) xnil)))) xnil)))
  (xseq (xifs (xtest (xop opEq (xv 1) (xc (.str "drop")))) xnever xnext)
  (xseq (xset 3 (xcall r_degree (xcons (xdget (xfldv 0 4 0) (xop opIx (xv 2) (xc (.int 0)))) xnil)))
  (xret (xif (xtest (xop opIs (xv 3) (xc .non))) (xc (.str "all")) (xcb cbStr (xcons (xv 3) xnil)))))))))
def r_Desk_answer : Mob → List D → Option (R × Mob) := runB 3 6 b_Desk_answer
def b_shown_text : MS := (xret (xrepl "\n" " ; " (xcb (cbStrO 0 r_Rule_str) (xcons (xv 0) xnil))))
def r_shown_text : List D → Option R := runF 1 1 b_shown_text
def b_Desk_keep : MS := (xseq (xsetf 0 4 0 (xdmrg (xfldv 0 4 0) (xv 1) (xv 2)))
  (xret (xcall r_shown_text (xcons (xv 2) xnil))))
def r_Desk_keep : Mob → List D → Option (R × Mob) := runB 3 3 b_Desk_keep
def b_number_in : MS := (xseq (xifs (xtor (xtnot (xtest (xchain opLe opLe (xc (.int 1)) (xcb cbLen (xcons (xv 0) xnil)) (xc c_MOST_DIGITS)))) (xtnot (xtru (xcb cbAll (xcons (xlc (xstrI (xv 0)) (tgn 1) xtyes (xop (opInB false) (xv 1) (xc c_DIGITS)) [1]) xnil))))) (xret (xc .non)) xnext)
  (xret (xif (xtand (xtest (xop opEq (xop opIx (xv 0) (xc (.int 0))) (xc (.str "0")))) (xtest (xop opNe (xv 0) (xc (.str "0"))))) (xc .non) (xcb cbIntS (xcons (xv 0) xnil)))))
def r_number_in : List D → Option R := runF 1 2 b_number_in
def b_value_in : MS := (xseq (xset 1 (xif (xtest (xop opEq (xsl slB (xv 0) xnop (xpart (xc (.int 1)))) (xc (.str "-")))) (xsplit (xsl slB (xv 0) (xpart (xc (.int 1))) xnop) (xc (.str "/"))) (xsplit (xv 0) (xc (.str "/")))))
  (xseq (xset 2 (xlc (xseqI (xv 1)) (tgn 5) xtyes (xcall r_number_in (xcons (xv 5) xnil)) [5]))
  (xseq (xifs (xtor (xtest (xop opGt (xcb cbLen (xcons (xv 2) xnil)) (xc (.int 2)))) (xtru (xcb cbAny (xcons (xlc (xseqI (xv 2)) (tgn 6) xtyes (xop opIs (xv 6) (xc .non)) [6]) xnil)))) (xret (xc .non)) xnext)
  (xseq (ypar 3 4 (ycons (xop opIx (xv 2) (xc (.int 0))) (ycons (xif (xtest (xop opEq (xcb cbLen (xcons (xv 2) xnil)) (xc (.int 2)))) (xop opIx (xv 2) (xc (.int 1))) (xc (.int 1))) ynil)))
  (xseq (xifs (xtor (xtest (xop opEq (xv 4) (xc (.int 0)))) (xtor (xtand (xtest (xop opEq (xcb cbLen (xcons (xv 2) xnil)) (xc (.int 2)))) (xtest (xop opEq (xv 4) (xc (.int 1))))) (xtest (xop opNe (xcall r_divisor (xcons (xv 3) (xcons (xv 4) xnil))) (xc (.int 1)))))) (xret (xc .non)) xnext)
  (xseq (xifs (xtest (xop opNe (xsl slB (xv 0) xnop (xpart (xc (.int 1)))) (xc (.str "-")))) (xret (xtup (xcons (xv 3) (xcons (xv 4) xnil)))) xnext)
  (xret (xif (xtest (xop opEq (xv 3) (xc (.int 0)))) (xc .non) (xtup (xcons (xun unNeg (xv 3)) (xcons (xv 4) xnil)))))))))))
def r_value_in : List D → Option R := runF 1 7 b_value_in
def b_words_in : MS := (xseq (xset 2 (xsplit (xv 0) (xc (.str " "))))
  (xseq (xset 3 (xif (xtest (xop opEq (xv 1) (xc (.int 0)))) (xdisp ["rule"] (xcons (xc (.int 3)) xnil)) (xdisp ["at", "over"] (xcons (xc (.int 3)) (xcons (xc (.int 4)) xnil)))))
  (xseq (xifs (xtor (xtest (xop (opDIn true) (xop opIx (xv 2) (xc (.int 0))) (xv 3))) (xtest (xop opNe (xcb cbLen (xcons (xv 2) xnil)) (xdget (xv 3) (xop opIx (xv 2) (xc (.int 0))))))) (xret (xc .non)) xnext)
  (xseq (xset 4 (xlc (xseqI (xsl slB (xv 2) (xpart (xc (.int 1))) xnop)) (tgn 5) xtyes (xcall r_value_in (xcons (xv 5) xnil)) [5]))
  (xret (xif (xtru (xcb cbAny (xcons (xlc (xseqI (xv 4)) (tgn 6) xtyes (xop opIs (xv 6) (xc .non)) [6]) xnil))) (xc .non) (xlst (xcons (xop opIx (xv 2) (xc (.int 0))) (xstar (xv 4) xnil)))))))))
def r_words_in : List D → Option R := runF 2 7 b_words_in
def b_Rule_read_1 : MS := (xifs (xtor (xtest (xop opIs (xv 4) (xc .non))) (xtand (xtest (xop opGt (xv 3) (xc (.int 0)))) (xtand (xtest (xop opEq (xop opIx (xv 4) (xc (.int 0))) (xc (.str "at")))) (xtest (xop opEq (xop opIx (xop opIx (xv 2) (xop opSub (xv 3) (xc (.int 1)))) (xc (.int 0))) (xc (.str "over"))))))) xnever xnext)
def b_Rule_read : MS := (xseq (xifs (xtnot (xtru (xcb cbIsi (xcons (xv 1) (xcons (xc (.ty "str")) xnil))))) xnever xnext)
  (xseq (xset 2 (xlc (xenumA (xcons (xsplit (xv 1) (xc (.str "\n"))) xnil)) (tgt [(tgn 3), (tgn 7)]) xtyes (xcall r_words_in (xcons (xv 7) (xcons (xv 3) xnil))) [3, 7]))
  (xseq (xfor (xenumA (xcons (xv 2) xnil)) (tgt [(tgn 3), (tgn 4)]) b_Rule_read_1)
  (xseq (xset 5 (xlc (xseqI (xv 2)) (tgn 4) (xtest (xop opEq (xop opIx (xv 4) (xc (.int 0))) (xc (.str "at")))) (xcb cbTuple (xcons (xsl slB (xv 4) (xpart (xc (.int 1))) xnop) xnil)) [4]))
  (xseq (xset 6 (xlc (xseqI (xv 2)) (tgn 4) (xtest (xop opEq (xop opIx (xv 4) (xc (.int 0))) (xc (.str "over")))) (xcb cbTuple (xcons (xsl slB (xv 4) (xpart (xc (.int 1))) xnop) xnil)) [4]))
  (xret (xmakeL 0 r_Rule_init ([.tup [], .tup []].drop 2) (xv 0) (xcons (xop opIx (xop opIx (xv 2) (xc (.int 0))) (xc (.int 1))) (xcons (xop opIx (xop opIx (xv 2) (xc (.int 0))) (xc (.int 2))) (xcons (xv 5) (xcons (xv 6) xnil)))))))))))
def r_Rule_read : List D → Option R := runF 2 8 b_Rule_read
def b_is_name : MS := (xret (xvand (xchain opLe opLe (xc (.int 1)) (xcb cbLen (xcons (xv 0) xnil)) (xc (.int 4))) (xcb cbAll (xcons (xlc (xstrI (xv 0)) (tgn 1) xtyes (xop (opInB false) (xv 1) (xc c_LETTERS)) [1]) xnil))))
def r_is_name : List D → Option R := runF 1 2 b_is_name
def b_Desk_say : MS := (xseq (xset 2 (xif (xtru (xcb cbIsi (xcons (xv 1) (xcons (xc (.ty "str")) xnil)))) (xsplit (xv 1) (xc (.str " "))) (xlst xnil)))
  (xseq (xdrop (xcall r_need (xcons (xvand (xop opGt (xcb cbLen (xcons (xv 2) xnil)) (xc (.int 1))) (xvand (xop (opInB true) (xc (.str "")) (xv 2)) (xop (opInB true) (xc (.str "\n")) (xv 1)))) xnil)))
  (xseq (ypar 3 4 (ycons (xop opIx (xv 2) (xc (.int 0))) (ycons (xsl slB (xv 2) (xpart (xc (.int 1))) xnop) ynil)))
  (xseq (xifs (xtest (xop opEq (xv 3) (xc (.str "rule")))) (xseq (xdrop (xcall r_need (xcons (xvand (xcall r_is_name (xcons (xop opIx (xv 4) (xc (.int 0))) xnil)) (xop opGt (xcb cbLen (xcons (xv 4) xnil)) (xc (.int 1)))) xnil)))
  (xret (xmethB 0 4 r_Desk_keep [] (xcons (xop opIx (xv 4) (xc (.int 0))) (xcons (xmethC 0 r_Rule_read (xc (.cl 0)) (xcons (xrepl " ; " "\n" (xjoin (xc (.str " ")) (xsl slB (xv 4) (xpart (xc (.int 1))) xnop))) xnil)) xnil))))) xnext)
  (xseq (xifs (xtest (xop (opInB false) (xv 3) (xtup (xcons (xc (.str "plus")) (xcons (xc (.str "less")) xnil))))) (xseq (xdrop (xcall r_need (xcons (xvand (xop opEq (xcb cbLen (xcons (xv 4) xnil)) (xc (.int 3))) (xvand (xcall r_is_name (xcons (xop opIx (xv 4) (xc (.int 0))) xnil)) (xmethB 0 4 r_Desk_has [] (xcons (xsl slB (xv 4) (xpart (xc (.int 1))) xnop) xnil)))) xnil)))
  (xseq (ypar 5 6 (ycons (xdget (xfldv 0 4 0) (xop opIx (xv 4) (xc (.int 1)))) (ycons (xdget (xfldv 0 4 0) (xop opIx (xv 4) (xc (.int 2)))) ynil)))
  (xret (xmethB 0 4 r_Desk_keep [] (xcons (xop opIx (xv 4) (xc (.int 0))) (xcons (xif (xtest (xop opEq (xv 3) (xc (.str "plus")))) (xop (opOwn 0 r_Rule_add opAddB) (xv 5) (xv 6)) (xop (opOwn 0 r_Rule_sub opSub) (xv 5) (xv 6))) xnil)))))) xnext)
  (xret (xmethB 0 4 r_Desk_answer [] (xcons (xv 3) (xcons (xv 4) xnil)))))))))
def r_Desk_say : Mob → List D → Option (R × Mob) := runB 2 7 b_Desk_say
def b_Live_init : MS := (xsetf 0 2 0 (xtup (xcons (xmake 0 r_Rule_init ([.tup [], .tup []].drop 0) (xcons (xv 1) (xcons (xv 2) xnil))) xnil)))
def r_Live_init : Mob → List D → Option (R × Mob) := runB 3 3 b_Live_init
def b_Live_len : MS := (xret (xcb cbLen (xcons (xsl slB (xfldv 0 2 0) (xpart (xc (.int 1))) xnop) xnil)))
def r_Live_len : Mob → List D → Option (R × Mob) := runB 1 1 b_Live_len
def b_Live_shown : MS := (xret (xop opIx (xfldv 0 2 0) (xun unNeg (xc (.int 1)))))
def r_Live_shown : Mob → List D → Option (R × Mob) := runB 1 1 b_Live_shown
def b_Live_grow : MS := (xseq (xset 3 (xmethB 0 2 r_Live_shown [] xnil))
  (xsetf 0 2 0 (xtup (xstar (xfldv 0 2 0) (xcons (xmake 0 r_Rule_init ([.tup [], .tup []].drop 2) (xcons (xfld 0 0 (xv 3)) (xcons (xfld 0 1 (xv 3)) (xcons (xlst (xstar (xfld 0 2 (xv 3)) (xstar (xv 1) xnil))) (xcons (xlst (xstar (xfld 0 3 (xv 3)) (xstar (xv 2) xnil))) xnil))))) xnil)))))
def r_Live_grow : Mob → List D → Option (R × Mob) := runB 3 4 b_Live_grow
def b_Live_cover : MS := (xseq (xifs (xtnot (xtru (xcall r_is_share (xcons (xtup (xcons (xv 1) (xcons (xv 2) (xcons (xv 3) xnil)))) (xcons (xfld 0 0 (xmethB 0 2 r_Live_shown [] xnil)) (xcons (xfld 0 1 (xmethB 0 2 r_Live_shown [] xnil)) xnil)))))) xnever xnext)
  (xdrop (xmethB 0 2 r_Live_grow [] (xcons (xlst xnil) (xcons (xlst (xcons (xtup (xcons (xv 1) (xcons (xv 2) (xcons (xv 3) xnil)))) xnil)) xnil)))))
def r_Live_cover : Mob → List D → Option (R × Mob) := runB 4 4 b_Live_cover
def b_Live_is_for : MS := (xret (xcall r_never_below (xcons (xmethB 0 2 r_Live_shown [] xnil) (xcons (xv 1) xnil))))
def r_Live_is_for : Mob → List D → Option (R × Mob) := runB 2 2 b_Live_is_for
def b_Live_put : MS := (xseq (xifs (xtnot (xtru (xcall r_is_weight (xcons (xtup (xcons (xv 1) (xcons (xv 2) xnil))) (xcons (xfld 0 0 (xmethB 0 2 r_Live_shown [] xnil)) (xcons (xfld 0 1 (xmethB 0 2 r_Live_shown [] xnil)) xnil)))))) xnever xnext)
  (xdrop (xmethB 0 2 r_Live_grow [] (xcons (xlst (xcons (xtup (xcons (xv 1) (xcons (xv 2) xnil))) xnil)) (xcons (xlst xnil) xnil)))))
def r_Live_put : Mob → List D → Option (R × Mob) := runB 3 3 b_Live_put
def b_Live_several_1 : MS := (xifs (xtnot (xtru (xcall r_is_weight (xcons (xv 3) (xcons (xfld 0 0 (xmethB 0 2 r_Live_shown [] xnil)) (xcons (xfld 0 1 (xmethB 0 2 r_Live_shown [] xnil)) xnil)))))) xnever xnext)
def b_Live_several : MS := (xseq (xifs (xtnot (xtru (xcall r_is_sequence (xcons (xv 1) xnil)))) xnever xnext)
  (xseq (xfor (xenumA (xcons (xv 1) xnil)) (tgt [(tgn 2), (tgn 3)]) b_Live_several_1)
  (xdrop (xmethB 0 2 r_Live_grow [] (xcons (xv 1) (xcons (xlst xnil) xnil))))))
def r_Live_several : Mob → List D → Option (R × Mob) := runB 2 4 b_Live_several
def b_led_point : MS := (xret (xcall r_added (xcons (xv 1) (xcons (xcall r_multiplied (xcons (xcall r_less_by (xcons (xv 3) (xcons (xv 0) xnil))) (xcons (xv 2) xnil))) xnil))))
def r_led_point : List D → Option R := runF 4 4 b_led_point
def b_Rule_led_1 : MS := (xseq (xset 11 (xtup (xcons (xcall r_led_point (xcons (xfld 0 0 (xv 0)) (xcons (xv 3) (xcons (xv 5) (xcons (xv 8) xnil))))) (xcons (xcall r_led_point (xcons (xfld 0 0 (xv 0)) (xcons (xv 3) (xcons (xv 5) (xcons (xv 9) xnil))))) xnil))))
  (xapp 7 (xtup (xstar (xv 11) (xcons (xcall r_quotient (xcons (xv 10) (xcons (xv 5) xnil))) xnil)))))
def b_Rule_led : MS := (xseq (xasg (xcall r_need_stretch (xcons (xv 1) (xcons (xv 2) xnil))) (tgt [(tgn 3), (tgn 4)]))
  (xseq (xset 5 (xcall r_quotient (xcons (xcall r_less_by (xcons (xv 4) (xcons (xv 3) xnil))) (xcons (xcall r_less_by (xcons (xfld 0 1 (xv 0)) (xcons (xfld 0 0 (xv 0)) xnil))) xnil))))
  (xseq (xset 6 (xlc (xseqI (xfld 0 2 (xv 0))) (tgt [(tgn 12), (tgn 13)]) xtyes (xtup (xcons (xcall r_led_point (xcons (xfld 0 0 (xv 0)) (xcons (xv 3) (xcons (xv 5) (xcons (xv 12) xnil))))) (xcons (xv 13) xnil))) [12, 13]))
  (xseq (xset 7 (xlst xnil))
  (xseq (xfor (xseqI (xfld 0 3 (xv 0))) (tgt [(tgn 8), (tgn 9), (tgn 10)]) b_Rule_led_1)
  (xret (xmake 0 r_Rule_init ([.tup [], .tup []].drop 2) (xcons (xv 3) (xcons (xv 4) (xcons (xv 6) (xcons (xv 7) xnil)))))))))))
def r_Rule_led : List D → Option R := runF 3 14 b_Rule_led
def b_Rule_scaled : MS := (xseq (xset 2 (xcall r_value_of (xcons (xv 1) xnil)))
  (xseq (xset 3 (xlc (xseqI (xfld 0 2 (xv 0))) (tgt [(tgn 4), (tgn 5)]) xtyes (xtup (xcons (xv 4) (xcons (xcall r_multiplied (xcons (xv 5) (xcons (xv 2) xnil))) xnil))) [4, 5]))
  (xret (xmake 0 r_Rule_init ([.tup [], .tup []].drop 2) (xcons (xfld 0 0 (xv 0)) (xcons (xfld 0 1 (xv 0)) (xcons (xv 3) (xcons (xlc (xseqI (xfld 0 3 (xv 0))) (tgn 6) xtyes (xtup (xstar (xsl slB (xv 6) xnop (xpart (xc (.int 2)))) (xcons (xcall r_multiplied (xcons (xop opIx (xv 6) (xc (.int 2))) (xcons (xv 2) xnil))) xnil))) [6]) xnil))))))))
def r_Rule_scaled : List D → Option R := runF 2 7 b_Rule_scaled
def b_area : MS := (xseq (xasg (xcall r_need_stretch (xcons (xv 0) (xcons (xv 1) xnil))) (tgt [(tgn 2), (tgn 3)]))
  (xret (xmake 0 r_Rule_init ([.tup [], .tup []].drop 2) (xcons (xv 2) (xcons (xv 3) (xcons (xlst xnil) (xcons (xlst (xcons (xtup (xcons (xv 2) (xcons (xv 3) (xcons (xc (.int 1)) xnil)))) xnil)) xnil)))))))
def r_area : List D → Option R := runF 2 4 b_area
def b_need_points_1 : MS := (xseq (xifs (xtor (xtnot (xtru (xcall r_is_between (xcons (xv 5) (xcons (xv 0) (xcons (xv 1) xnil)))))) (xtand (xtest (xop opGt (xv 4) (xc (.int 0)))) (xtnot (xtru (xcall r_is_less (xcons (xby 3 (xixv 3 (xun unNeg (xc (.int 1)))) (xop opIx (xv 3) (xun unNeg (xc (.int 1))))) (xcons (xcall r_value_of (xcons (xv 5) xnil)) xnil))))))) xnever xnext)
  (xapp 3 (xcall r_value_of (xcons (xv 5) xnil))))
def b_need_points : MS := (xseq (xifs (xtor (xtnot (xtru (xcall r_is_sequence (xcons (xv 2) xnil)))) (xtest (xop opEq (xcb cbLen (xcons (xv 2) xnil)) (xc (.int 0))))) xnever xnext)
  (xseq (xset 3 (xlst xnil))
  (xseq (xfor (xenumA (xcons (xv 2) xnil)) (tgt [(tgn 4), (tgn 5)]) b_need_points_1)
  (xret (xmv 3)))))
def r_need_points : List D → Option R := runF 3 6 b_need_points
def b_powers_of_1 : MS := (xseq (xset 4 (xcall r_less_by (xcons (xv 0) (xcons (xv 3) xnil))))
  (xseq (xset 5 (xlc (xseqI (xlst (xstar (xv 2) (xcons (xc c_NOUGHT) xnil)))) (tgn 6) xtyes (xcall r_multiplied (xcons (xv 6) (xcons (xv 3) xnil))) [6]))
  (xset 2 (xlc (xzipA (xcons (xlst (xcons (xc c_NOUGHT) (xstar (xv 2) xnil))) (xcons (xv 5) xnil))) (tgt [(tgn 7), (tgn 8)]) xtyes (xcall r_quotient (xcons (xcall r_less_by (xcons (xv 7) (xcons (xv 8) xnil))) (xcons (xv 4) xnil))) [7, 8]))))
def b_powers_of : MS := (xseq (xset 2 (xlst (xcons (xc c_ONE) xnil)))
  (xseq (xfor (xseqI (xv 1)) (tgn 3) b_powers_of_1)
  (xret (xmv 2))))
def r_powers_of : List D → Option R := runF 2 9 b_powers_of
def b_best_1 : MS := (xapp 7 (xtup (xcons (xv 8) (xcons (xcall r_told (xcons (xv 6) (xcons (xcall r_powers_of (xcons (xv 8) (xcons (xlc (xseqI (xv 5)) (tgn 9) (xtest (xop opNe (xv 9) (xv 8))) (xv 9) [9]) xnil))) xnil))) xnil))))
def b_best : MS := (xseq (xasg (xcall r_need_stretch (xcons (xv 0) (xcons (xv 1) xnil))) (tgt [(tgn 3), (tgn 4)]))
  (xseq (xset 5 (xcall r_need_points (xcons (xv 3) (xcons (xv 4) (xcons (xv 2) xnil)))))
  (xseq (ypar 6 7 (ycons (xcall r_area (xcons (xv 3) (xcons (xv 4) xnil))) (ycons (xlst xnil) ynil)))
  (xseq (xfor (xseqI (xv 5)) (tgn 8) b_best_1)
  (xret (xmake 0 r_Rule_init ([.tup [], .tup []].drop 1) (xcons (xv 3) (xcons (xv 4) (xcons (xv 7) xnil)))))))))
def r_best : List D → Option R := runF 3 10 b_best
def b_best_kinds : MS := (xseq (xifs (xtest (xop opNe (xtup (xcons (xfld 0 0 (xv 0)) (xcons (xfld 0 1 (xv 0)) xnil))) (xtup (xcons (xfld 0 0 (xv 1)) (xcons (xfld 0 1 (xv 1)) xnil))))) xnever xnext)
  (xret (xcb cbTuple (xcons (xlc (xrange1 (xcons (xop opAddB (xv 2) (xc (.int 1))) xnil)) (tgn 3) (xtest (xop opNe (xcall r_compare (xcons (xv 0) (xcons (xv 1) (xcons (xv 3) xnil)))) (xc (.str "apart")))) (xv 3) [3]) xnil))))
def r_best_kinds : List D → Option R := runF 3 4 b_best_kinds
def b_brackets : MS := (xseq (xset 2 (xlc (xseqI (xv 0)) (tgn 4) xtyes (xcall r_compare (xcons (xv 4) (xcons (xcall r_area (xcons (xfld 0 0 (xv 4)) (xcons (xfld 0 1 (xv 4)) xnil))) (xcons (xv 1) xnil)))) [4]))
  (xseq (xset 3 (xcb cbTuple (xcons (xlc (xenumA (xcons (xv 2) xnil)) (tgt [(tgn 5), (tgn 6)]) (xtest (xop (opInB false) (xv 6) (xtup (xcons (xc (.str "same")) (xcons (xc (.str "below")) xnil))))) (xv 5) [5, 6]) xnil)))
  (xret (xtup (xcons (xv 3) (xcons (xcb cbTuple (xcons (xlc (xenumA (xcons (xv 2) xnil)) (tgt [(tgn 5), (tgn 6)]) (xtest (xop (opInB false) (xv 6) (xtup (xcons (xc (.str "same")) (xcons (xc (.str "above")) xnil))))) (xv 5) [5, 6]) xnil)) xnil))))))
def r_brackets : List D → Option R := runF 2 7 b_brackets
def b_finer_1 : MS := (xseq (xset 5 (xcall r_added (xcons (xfld 0 0 (xv 0)) (xcons (xcall r_multiplied (xcons (xv 2) (xcons (xtup (xcons (xv 4) (xcons (xc (.int 1)) xnil))) xnil))) xnil))))
  (xseq (xset 6 (xmeth 0 r_Rule_led [] (xv 0) (xcons (xv 5) (xcons (xcall r_added (xcons (xv 5) (xcons (xv 2) xnil))) xnil))))
  (xset 3 (xop (opOwn 0 r_Rule_add opAddB) (xv 3) (xmake 0 r_Rule_init ([.tup [], .tup []].drop 2) (xcons (xfld 0 0 (xv 0)) (xcons (xfld 0 1 (xv 0)) (xcons (xfld 0 2 (xv 6)) (xcons (xfld 0 3 (xv 6)) xnil)))))))))
def b_finer : MS := (xseq (xset 2 (xcall r_quotient (xcons (xcall r_less_by (xcons (xfld 0 1 (xv 0)) (xcons (xfld 0 0 (xv 0)) xnil))) (xcons (xtup (xcons (xv 1) (xcons (xc (.int 1)) xnil))) xnil))))
  (xseq (xset 3 (xmake 0 r_Rule_init ([.tup [], .tup []].drop 0) (xcons (xfld 0 0 (xv 0)) (xcons (xfld 0 1 (xv 0)) xnil))))
  (xseq (xfor (xrange1 (xcons (xv 1) xnil)) (tgn 4) b_finer_1)
  (xret (xmeth 0 r_Rule_scaled [] (xv 3) (xcons (xcall r_lowest (xcons (xc (.int 1)) (xcons (xv 1) xnil))) xnil))))))
def r_finer : List D → Option R := runF 2 7 b_finer
def b_mixed_1 : MS := (xifs (xtest (xop opNe (xv 5) (xv 3))) (xset 4 (xcall r_multiplied (xcons (xv 4) (xcons (xcall r_lowest (xcons (xop opMul (xv 3) (xv 3)) (xcons (xop opSub (xop opMul (xv 3) (xv 3)) (xop opMul (xv 5) (xv 5))) xnil))) xnil)))) xnext)
def b_mixed_2 : MS := (xseq (xset 4 (xc c_ONE))
  (xseq (xfor (xseqI (xv 1)) (tgn 5) b_mixed_1)
  (xset 2 (xop (opOwn 0 r_Rule_add opAddB) (xv 2) (xmeth 0 r_Rule_scaled [] (xcall r_finer (xcons (xv 0) (xcons (xv 3) xnil))) (xcons (xv 4) xnil))))))
def b_mixed : MS := (xseq (xset 2 (xmake 0 r_Rule_init ([.tup [], .tup []].drop 0) (xcons (xfld 0 0 (xv 0)) (xcons (xfld 0 1 (xv 0)) xnil))))
  (xseq (xfor (xseqI (xv 1)) (tgn 3) b_mixed_2)
  (xret (xmv 2))))
def r_mixed : List D → Option R := runF 2 6 b_mixed
def b_w_made_right : MS := (xseq (xifs (xtor (xtest (xop opNe (xcallK r_compare 0 3 [2, 1, 0] [] xnil (xcons (xc (.int 2)) (xcons (xv 2) (xcons (xv 1) xnil)))) (xc (.str "below")))) (xtest (xop opNe (xcallK r_best_kinds 0 3 [2, 1, 0] [] xnil (xcons (xc (.int 4)) (xcons (xv 2) (xcons (xv 0) xnil)))) (xtup (xcons (xc (.int 2)) xnil))))) (xret (xc (.bl false))) xnext)
  (xseq (xifs (xtest (xop opNe (xcallK r_brackets 0 2 [1, 0] [] xnil (xcons (xc (.int 2)) (xcons (xlst (xcons (xv 1) (xcons (xv 0) xnil))) xnil))) (xtup (xcons (xtup (xcons (xc (.int 0)) xnil)) (xcons (xtup (xcons (xc (.int 1)) xnil)) xnil))))) (xret (xc (.bl false))) xnext)
  (xseq (xset 3 (xcallK r_best 0 3 [2, 1, 0] [] xnil (xcons (xlst (xcons (xc (.int 0)) (xcons (xtup (xcons (xc (.int 1)) (xcons (xc (.int 2)) xnil))) (xcons (xc (.int 1)) xnil)))) (xcons (xc (.int 1)) (xcons (xc (.int 0)) xnil)))))
  (xseq (xifs (xtor (xtest (xop (opOwnNe 0 r_Rule_eq opNe) (xcallK r_mixed 0 2 [1, 0] [] xnil (xcons (xlst (xcons (xc (.int 1)) (xcons (xc (.int 2)) xnil))) (xcons (xv 0) xnil))) (xv 3))) (xtest (xop opNe (xop opIx (xfld 0 2 (xcallK r_finer 0 2 [1, 0] [] xnil (xcons (xc (.int 2)) (xcons (xv 0) xnil)))) (xc (.int 1))) (xtup (xcons (xtup (xcons (xc (.int 1)) (xcons (xc (.int 2)) xnil))) (xcons (xtup (xcons (xc (.int 1)) (xcons (xc (.int 2)) xnil))) xnil)))))) (xret (xc (.bl false))) xnext)
  (xret (xop opEq (xcallK r_told 0 2 [1, 0] [] xnil (xcons (xlst (xcons (xc (.int 0)) (xcons (xc (.int 0)) (xcons (xc (.int 0)) (xcons (xc (.int 0)) (xcons (xc (.int 120)) xnil)))))) (xcons (xop (opOwn 0 r_Rule_sub opSub) (xv 3) (xv 2)) xnil))) (xtup (xcons (xc (.int 1)) (xcons (xc (.int 1)) xnil)))))))))
def r_w_made_right : List D → Option R := runF 3 4 b_w_made_right
def b_w_number_1 : MS := (xset 2 (xop opMod (xcb cbInt (xcons (xop opAddB (xop opAddB (xop opMul (xv 2) (xc (.int 43))) (xop opMod (xcb cbInt (xcons (xcb cbAbs (xcons (xv 3) xnil)) xnil)) (xc (.int 1000003)))) (xv 1)) xnil)) (xc (.int 1000003))))
def b_w_number : MS := (xseq (xset 2 (xop opAddB (xc (.int 41)) (xv 1)))
  (xseq (xfor (xseqI (xsl slB (xv 0) xnop (xpart (xc (.int 50))))) (tgn 3) b_w_number_1)
  (xret (xop opMod (xcb cbInt (xcons (xop opFdiv (xv 2) (xc (.int 3))) xnil)) (xc (.int 6))))))
def r_w_number : List D → Option R := runF 2 4 b_w_number
def b_told_kink_1 : MS := (xifs (xtru (xcall r_is_less (xcons (xv 3) (xcons (xv 5) xnil)))) (xapp 4 (xcall r_multiplied (xcons (xv 6) (xcons (xcall r_powered (xcons (xcall r_less_by (xcons (xv 5) (xcons (xv 3) xnil))) (xcons (xv 2) xnil))) xnil)))) xnext)
def b_told_kink_2 : MS := (xifs (xtru (xcall r_is_less (xcons (xv 3) (xcons (xv 8) xnil)))) (xseq (xset 10 (xcall r_powered (xcons (xcall r_less_by (xcons (xv 8) (xcons (xv 3) xnil))) (xcons (xop opAddB (xv 2) (xc (.int 1))) xnil))))
  (xseq (xset 11 (xif (xtru (xcall r_is_less (xcons (xv 3) (xcons (xv 7) xnil)))) (xcall r_powered (xcons (xcall r_less_by (xcons (xv 7) (xcons (xv 3) xnil))) (xcons (xop opAddB (xv 2) (xc (.int 1))) xnil))) (xc c_NOUGHT)))
  (xapp 4 (xcall r_multiplied (xcons (xcall r_multiplied (xcons (xv 9) (xcons (xcall r_lowest (xcons (xc (.int 1)) (xcons (xop opAddB (xv 2) (xc (.int 1))) xnil))) xnil))) (xcons (xcall r_less_by (xcons (xv 10) (xcons (xv 11) xnil))) xnil)))))) xnext)
def b_told_kink : MS := (xseq (ypar 3 4 (ycons (xcall r_value_of (xcons (xv 1) xnil)) (ycons (xlst xnil) ynil)))
  (xseq (xfor (xseqI (xfld 0 2 (xv 0))) (tgt [(tgn 5), (tgn 6)]) b_told_kink_1)
  (xseq (xfor (xseqI (xfld 0 3 (xv 0))) (tgt [(tgn 7), (tgn 8), (tgn 9)]) b_told_kink_2)
  (xret (xcall r_summed (xcons (xv 4) xnil))))))
def r_told_kink : List D → Option R := runF 3 12 b_told_kink
def b_law_1 : MS := (xseq (xset 2 (xcall r_w_number (xcons (xv 0) (xcons (xv 1) xnil))))
  (xseq (ypar 3 4 (ycons (xcallK r_area 0 2 [1, 0] [] xnil (xcons (xc (.int 1)) (xcons (xc (.int 0)) xnil))) (ycons (xmakeK 0 r_Rule_init 0 3 [2, 1, 0, 4] [.tup [], .tup []] xnil (xcons (xlst (xcons (xtup (xcons (xc (.int 0)) (xcons (xtup (xcons (xc (.int 1)) (xcons (xc (.int 2)) xnil))) xnil))) (xcons (xtup (xcons (xc (.int 1)) (xcons (xtup (xcons (xc (.int 1)) (xcons (xc (.int 2)) xnil))) xnil))) xnil))) (xcons (xc (.int 1)) (xcons (xc (.int 0)) xnil)))) ynil)))
  (xseq (xset 5 (xmakeK 0 r_Rule_init 0 4 [3, 2, 1, 0] [.tup [], .tup []] xnil (xcons (xtup xnil) (xcons (xlst (xcons (xtup (xcons (xtup (xcons (xc (.int 1)) (xcons (xc (.int 2)) xnil))) (xcons (xc (.int 1)) xnil))) xnil)) (xcons (xc (.int 1)) (xcons (xc (.int 0)) xnil))))))
  (xseq (xifs (xtor (xtest (xop (opOwnNe 0 r_Rule_eq opNe) (xcmeth 0 r_Rule_read 1 [0] [] (xc (.cl 0)) (xcons (xcb (cbStrO 0 r_Rule_str) (xcons (xv 4) xnil)) xnil)) (xv 4))) (xtest (xop (opOwnNe 0 r_Rule_eq opNe) (xmethK 0 r_Rule_scaled 1 [0] [] (xv 4) (xcons (xc (.int 2)) xnil)) (xop (opOwn 0 r_Rule_add opAddB) (xv 4) (xv 4))))) (xret (xc (.bl false))) xnext)
  (xseq (xifs (xtest (xop opNe (xfld 0 2 (xmethK 0 r_Rule_led 2 [1, 0] [] (xv 5) (xcons (xop opAddB (xv 2) (xc (.int 2))) (xcons (xv 2) xnil)))) (xtup (xcons (xtup (xcons (xtup (xcons (xop opAddB (xv 2) (xc (.int 1))) (xcons (xc (.int 1)) xnil))) (xcons (xtup (xcons (xc (.int 1)) (xcons (xc (.int 1)) xnil))) xnil))) xnil)))) (xret (xc (.bl false))) xnext)
  (xseq (xifs (xtor (xtest (xop opNe (xcallK r_told_kink 0 3 [2, 1, 0] [] xnil (xcons (xc (.int 1)) (xcons (xtup (xcons (xc (.int 1)) (xcons (xc (.int 2)) xnil))) (xcons (xv 4) xnil)))) (xtup (xcons (xc (.int 1)) (xcons (xc (.int 4)) xnil))))) (xtnot (xtru (xcall r_w_made_right (xcons (xv 4) (xcons (xv 5) (xcons (xv 3) xnil))))))) (xret (xc (.bl false))) xnext)
  (xseq (xset 6 (xmakeK 2 r_Live_init 0 2 [1, 0] [] xnil (xcons (xc (.int 1)) (xcons (xc (.int 0)) xnil))))
  (xseq (xdrop (xmethB 6 2 r_Live_put [] (xpk 2 [1, 0] (xcons (xc (.int 1)) (xcons (xtup (xcons (xc (.int 1)) (xcons (xc (.int 2)) xnil))) xnil)))))
  (xseq (xdrop (xmethB 6 2 r_Live_cover [] (xpk 3 [2, 1, 0] (xcons (xun unNeg (xc (.int 1))) (xcons (xc (.int 1)) (xcons (xc (.int 0)) xnil))))))
  (xseq (xdrop (xmethB 6 2 r_Live_several [] (xpk 1 [0] (xcons (xlst (xcons (xtup (xcons (xc (.int 0)) (xcons (xv 2) xnil))) xnil)) xnil))))
  (xseq (xifs (xtor (xtest (xop opNe (xlenB 6 2 r_Live_len) (xc (.int 3)))) (xtor (xtest (xop opIsNot (xmethB 6 2 r_Live_is_for [] (xpk 1 [0] (xcons (xc (.int 0)) xnil))) (xc (.bl false)))) (xtest (xop opNe (xwithin 6 (xlenB 0 2 r_Live_len)) (xc (.int 3)))))) (xret (xc (.bl false))) xnext)
  (xseq (xifs (xtest (xop (opOwnNe 0 r_Rule_eq opNe) (xmethB 6 2 r_Live_shown [] xnil) (xop (opOwn 0 r_Rule_add opAddB) (xop (opOwn 0 r_Rule_sub opSub) (xv 5) (xv 3)) (xmake 0 r_Rule_init ([.tup [], .tup []].drop 1) (xcons (xc (.int 0)) (xcons (xc (.int 1)) (xcons (xlst (xcons (xtup (xcons (xc (.int 0)) (xcons (xv 2) xnil))) xnil)) xnil))))))) (xret (xc (.bl false))) xnext)
  (xifs (xtest (xop opNe (xtmpK 4 r_Desk_init r_Desk_say (.str "rule a rule 0 1")) (xc (.str "rule 0 1")))) (xret (xc (.bl false))) xnext)))))))))))))
def b_law : MS := (xseq (xfor (xrange1 (xcons (xcb cbMax2 (xcons (xc (.int 1)) (xcons (xcb cbMin2 (xcons (xc (.int 4)) (xcons (xcb cbLen (xcons (xv 0) xnil)) xnil))) xnil))) xnil)) (tgn 1) b_law_1)
  (xret (xc (.bl true))))
def r_law : List D → Option R := runF 1 7 b_law
end Bk
namespace Bk
open PySem L2 PyProof.Rows
def top (i : Nat) : Stmt := PySem.Challenge.pw_bendkinds_k12_rules_by_names.main.body.getD i (.Pass ⟨0, 0, 0, 0⟩)
abbrev s_Desk_init : Stmt := inClass (top 93) 0
abbrev s_Desk_has : Stmt := inClass (top 93) 2
abbrev s_text_of : Stmt := top 29
abbrev s_Rule_str : Stmt := inClass (top 39) 10
abbrev s_Rule_eq : Stmt := inClass (top 39) 9
abbrev s_is_sequence : Stmt := top 15
abbrev s_is_less : Stmt := top 25
abbrev s_is_integer : Stmt := top 14
abbrev s_divisor : Stmt := top 16
abbrev s_is_pair : Stmt := top 18
abbrev s_is_value : Stmt := top 19
abbrev s_value_of : Stmt := top 20
abbrev s_is_between : Stmt := top 34
abbrev s_is_share : Stmt := top 36
abbrev s_is_weight : Stmt := top 35
abbrev s_ascending : Stmt := top 28
abbrev s_lowest : Stmt := top 17
abbrev s_added : Stmt := top 21
abbrev s_summed : Stmt := top 26
abbrev s_least_shares : Stmt := top 38
abbrev s_least_weights : Stmt := top 37
abbrev s_need_stretch : Stmt := top 33
abbrev s_Rule_init : Stmt := inClass (top 39) 0
abbrev s_Rule_neg : Stmt := inClass (top 39) 6
abbrev s_Rule_add : Stmt := inClass (top 39) 5
abbrev s_Rule_sub : Stmt := inClass (top 39) 7
abbrev s_trimmed : Stmt := top 51
abbrev s_integers_of : Stmt := top 79
abbrev s_quotient : Stmt := top 24
abbrev s_area_powers : Stmt := top 45
abbrev s_less_by : Stmt := top 22
abbrev s_multiplied : Stmt := top 23
abbrev s_value_at_rules : Stmt := top 43
abbrev s_told : Stmt := top 46
abbrev s_degree : Stmt := top 49
abbrev s_is_exact_enough : Stmt := top 81
abbrev s_plus : Stmt := top 52
abbrev s_primitive : Stmt := top 58
abbrev s_product : Stmt := top 53
abbrev s_sign_of : Stmt := top 57
abbrev s_parted : Stmt := top 60
abbrev s_rest : Stmt := top 61
abbrev s_upright : Stmt := top 59
abbrev s_common : Stmt := top 63
abbrev s_derived : Stmt := top 54
abbrev s_divided : Stmt := top 62
abbrev s_parts_of : Stmt := top 65
abbrev s_chain_of : Stmt := top 66
abbrev s_sign_changes : Stmt := top 67
abbrev s_value_at_polys : Stmt := top 55
abbrev s_changes_at : Stmt := top 68
abbrev s_once_each : Stmt := top 69
abbrev s_roots_between : Stmt := top 70
abbrev s_without_ends : Stmt := top 64
abbrev s_is_nowhere_below : Stmt := top 71
abbrev s_knots_of : Stmt := top 73
abbrev s_powered : Stmt := top 27
abbrev s_ways : Stmt := top 74
abbrev s_distance_power : Stmt := top 75
abbrev s_sum_of : Stmt := top 76
abbrev s_piece : Stmt := top 77
abbrev s_kernel : Stmt := top 78
abbrev s_never_below : Stmt := top 82
abbrev s_compare : Stmt := top 84
abbrev s_need : Stmt := top 91
abbrev s_Desk_answer : Stmt := inClass (top 93) 4
abbrev s_shown_text : Stmt := top 92
abbrev s_Desk_keep : Stmt := inClass (top 93) 3
abbrev s_number_in : Stmt := top 30
abbrev s_value_in : Stmt := top 31
abbrev s_words_in : Stmt := top 41
abbrev s_Rule_read : Stmt := inClass (top 39) 1
abbrev s_is_name : Stmt := top 90
abbrev s_Desk_say : Stmt := inClass (top 93) 1
abbrev s_Live_init : Stmt := inClass (top 96) 0
abbrev s_Live_len : Stmt := inClass (top 96) 10
abbrev s_Live_shown : Stmt := inClass (top 96) 1
abbrev s_Live_grow : Stmt := inClass (top 96) 3
abbrev s_Live_cover : Stmt := inClass (top 96) 5
abbrev s_Live_is_for : Stmt := inClass (top 96) 7
abbrev s_Live_put : Stmt := inClass (top 96) 4
abbrev s_Live_several : Stmt := inClass (top 96) 6
abbrev s_led_point : Stmt := top 40
abbrev s_Rule_led : Stmt := inClass (top 39) 4
abbrev s_Rule_scaled : Stmt := inClass (top 39) 2
abbrev s_area : Stmt := top 42
abbrev s_need_points : Stmt := top 98
abbrev s_powers_of : Stmt := top 99
abbrev s_best : Stmt := top 100
abbrev s_best_kinds : Stmt := top 85
abbrev s_brackets : Stmt := top 86
abbrev s_finer : Stmt := top 101
abbrev s_mixed : Stmt := top 102
abbrev s_w_made_right : Stmt := top 105
abbrev s_w_number : Stmt := top 104
abbrev s_told_kink : Stmt := top 47
abbrev s_Block_init : Stmt := inClass (top 95) 0
abbrev s_Block_enter : Stmt := inClass (top 95) 1
abbrev s_Block_exit : Stmt := inClass (top 95) 2
abbrev s_Live_within : Stmt := inClass (top 96) 9
abbrev s_law : Stmt := top 106
abbrev nm_Desk_init : List PySem.Str := ["self"]
abbrev nm_Desk_has : List PySem.Str := ["self", "names", "name"]
abbrev nm_text_of : List PySem.Str := ["value"]
abbrev nm_Rule_str : List PySem.Str := ["self", "lines", "shares", "point", "weight", "start", "end", "share"]
abbrev nm_Rule_eq : List PySem.Str := ["self", "other"]
abbrev nm_is_sequence : List PySem.Str := ["value"]
abbrev nm_is_less : List PySem.Str := ["one", "other"]
abbrev nm_is_integer : List PySem.Str := ["value"]
abbrev nm_divisor : List PySem.Str := ["one", "other"]
abbrev nm_is_pair : List PySem.Str := ["value", "one"]
abbrev nm_is_value : List PySem.Str := ["value"]
abbrev nm_value_of : List PySem.Str := ["value"]
abbrev nm_is_between : List PySem.Str := ["value", "low", "high"]
abbrev nm_is_share : List PySem.Str := ["value", "low", "high"]
abbrev nm_is_weight : List PySem.Str := ["value", "low", "high"]
abbrev nm_ascending : List PySem.Str := ["values", "common_here", "top", "low", "scaled_ones", "one", "at", "place"]
abbrev nm_lowest : List PySem.Str := ["top", "low", "common"]
abbrev nm_added : List PySem.Str := ["one", "other"]
abbrev nm_summed : List PySem.Str := ["values", "found", "one"]
abbrev nm_least_shares : List PySem.Str := ["shares", "parts", "cuts", "found", "start", "end", "some", "here", "share", "one", "first", "last", "part"]
abbrev nm_least_weights : List PySem.Str := ["weights", "pairs", "found", "point", "weight", "place", "pair"]
abbrev nm_need_stretch : List PySem.Str := ["low", "high"]
abbrev nm_Rule_init : List PySem.Str := ["self", "low", "high", "weights", "shares", "one"]
abbrev nm_Rule_neg : List PySem.Str := ["self", "weights", "point", "top", "low", "start", "end"]
abbrev nm_Rule_add : List PySem.Str := ["self", "other"]
abbrev nm_Rule_sub : List PySem.Str := ["self", "other"]
abbrev nm_trimmed : List PySem.Str := ["counts", "many"]
abbrev nm_integers_of : List PySem.Str := ["powers", "below", "one", "top", "low"]
abbrev nm_quotient : List PySem.Str := ["one", "other"]
abbrev nm_area_powers : List PySem.Str := ["powers", "at", "one"]
abbrev nm_less_by : List PySem.Str := ["one", "other"]
abbrev nm_multiplied : List PySem.Str := ["one", "other"]
abbrev nm_value_at_rules : List PySem.Str := ["powers", "place", "found", "one"]
abbrev nm_told : List PySem.Str := ["rule", "powers", "some", "whole", "parts", "start", "end", "share", "one", "point", "weight"]
abbrev nm_degree : List PySem.Str := ["rule", "powers"]
abbrev nm_is_exact_enough : List PySem.Str := ["rule", "n", "found"]
abbrev nm_plus : List PySem.Str := ["one", "other", "by", "wide", "found", "at", "here"]
abbrev nm_primitive : List PySem.Str := ["poly", "common_one", "count"]
abbrev nm_product : List PySem.Str := ["one", "other", "found", "at", "here", "spot", "there", "place"]
abbrev nm_sign_of : List PySem.Str := ["number"]
abbrev nm_parted : List PySem.Str := ["one", "other", "lead", "left", "found", "by", "shifted", "common_one", "count"]
abbrev nm_rest : List PySem.Str := ["one", "other"]
abbrev nm_upright : List PySem.Str := ["poly", "found", "count"]
abbrev nm_common : List PySem.Str := ["one", "other"]
abbrev nm_derived : List PySem.Str := ["poly", "at", "count"]
abbrev nm_divided : List PySem.Str := ["one", "other"]
abbrev nm_parts_of : List PySem.Str := ["poly", "again", "once", "found", "often", "later", "here"]
abbrev nm_chain_of : List PySem.Str := ["poly", "found", "count"]
abbrev nm_sign_changes : List PySem.Str := ["told", "some", "sign", "one", "other"]
abbrev nm_value_at_polys : List PySem.Str := ["poly", "spot", "found", "below", "count"]
abbrev nm_changes_at : List PySem.Str := ["chain", "at", "poly"]
abbrev nm_once_each : List PySem.Str := ["poly"]
abbrev nm_roots_between : List PySem.Str := ["poly", "start", "end", "chain"]
abbrev nm_without_ends : List PySem.Str := ["poly", "start", "end", "found", "zero", "factor", "often"]
abbrev nm_is_nowhere_below : List PySem.Str := ["poly", "start", "end", "inner", "often", "one"]
abbrev nm_knots_of : List PySem.Str := ["rule", "some", "start", "end", "share", "below", "one", "point", "weight", "top", "low", "count"]
abbrev nm_powered : List PySem.Str := ["value", "many", "found", "turn"]
abbrev nm_ways : List PySem.Str := ["many", "chosen", "found", "at"]
abbrev nm_distance_power : List PySem.Str := ["place", "many", "factor", "found", "at", "sign"]
abbrev nm_sum_of : List PySem.Str := ["one", "other", "wide", "spot", "here", "there"]
abbrev nm_piece : List PySem.Str := ["rule", "n", "start", "end", "found", "point", "weight", "first", "last", "share", "part", "spot"]
abbrev nm_kernel : List PySem.Str := ["rule", "n", "knots", "start", "end"]
abbrev nm_never_below : List PySem.Str := ["rule", "n", "some", "point", "weight", "start", "end", "share", "one", "powers"]
abbrev nm_compare : List PySem.Str := ["one", "other", "n", "more"]
abbrev nm_need : List PySem.Str := ["is_good"]
abbrev nm_Desk_answer : List PySem.Str := ["self", "word", "rest", "found", "name", "rule"]
abbrev nm_shown_text : List PySem.Str := ["rule"]
abbrev nm_Desk_keep : List PySem.Str := ["self", "name", "rule"]
abbrev nm_number_in : List PySem.Str := ["word", "sign"]
abbrev nm_value_in : List PySem.Str := ["word", "parts", "numbers", "top", "low", "part", "number"]
abbrev nm_words_in : List PySem.Str := ["line", "at", "words", "sizes", "values", "word", "value"]
abbrev nm_Rule_read : List PySem.Str := ["cls", "text", "lines", "at", "words", "weights", "shares", "line"]
abbrev nm_is_name : List PySem.Str := ["word", "sign"]
abbrev nm_Desk_say : List PySem.Str := ["self", "command", "words", "word", "rest", "one", "other"]
abbrev nm_Live_init : List PySem.Str := ["self", "low", "high"]
abbrev nm_Live_len : List PySem.Str := ["self"]
abbrev nm_Live_shown : List PySem.Str := ["self"]
abbrev nm_Live_grow : List PySem.Str := ["self", "weights", "shares", "here"]
abbrev nm_Live_cover : List PySem.Str := ["self", "start", "end", "share"]
abbrev nm_Live_is_for : List PySem.Str := ["self", "n"]
abbrev nm_Live_put : List PySem.Str := ["self", "point", "weight"]
abbrev nm_Live_several : List PySem.Str := ["self", "weights", "at", "weight"]
abbrev nm_led_point : List PySem.Str := ["low", "first", "wide", "point"]
abbrev nm_Rule_led : List PySem.Str := ["self", "low", "high", "first", "last", "wide", "weights", "shares", "start", "end", "share", "ends", "point", "weight"]
abbrev nm_Rule_scaled : List PySem.Str := ["self", "factor", "by", "weights", "point", "weight", "part"]
abbrev nm_area : List PySem.Str := ["low", "high", "first", "last"]
abbrev nm_need_points : List PySem.Str := ["low", "high", "points", "found", "at", "point"]
abbrev nm_powers_of : List PySem.Str := ["point", "others", "found", "other", "wide", "lower", "one", "high", "low"]
abbrev nm_best : List PySem.Str := ["low", "high", "points", "first", "last", "some", "whole", "weights", "point", "other"]
abbrev nm_best_kinds : List PySem.Str := ["one", "other", "most", "n"]
abbrev nm_brackets : List PySem.Str := ["rules", "n", "words", "low", "rule", "at", "word"]
abbrev nm_finer : List PySem.Str := ["rule", "many", "wide", "found", "turn", "start", "part"]
abbrev nm_mixed : List PySem.Str := ["rule", "parts", "found", "many", "factor", "other"]
abbrev nm_w_made_right : List PySem.Str := ["_law_zends", "_law_zmiddle", "_law_zwhole", "_law_zthirds"]
abbrev nm_w_number : List PySem.Str := ["_law_script", "_law_zturn", "_law_zfound", "_law_zcell"]
abbrev nm_told_kink : List PySem.Str := ["rule", "place", "power", "spot", "parts", "point", "weight", "start", "end", "share", "far", "near"]
abbrev nm_Block_init : List PySem.Str := ["self", "live"]
abbrev nm_Block_enter : List PySem.Str := ["self"]
abbrev nm_Block_exit : List PySem.Str := ["self", "kind", "value", "trace"]
abbrev nm_Live_within : List PySem.Str := ["self", "work", "given"]
abbrev nm_law : List PySem.Str := ["_law_script", "_law_zk", "_law_zn", "_law_zwhole", "_law_zends", "_law_zmiddle", "_law_zlive"]
abbrev pm_Desk_init : List PySem.Str := ["self"]
abbrev pm_Desk_has : List PySem.Str := ["self", "names"]
abbrev pm_text_of : List PySem.Str := ["value"]
abbrev pm_Rule_str : List PySem.Str := ["self"]
abbrev pm_Rule_eq : List PySem.Str := ["self", "other"]
abbrev pm_is_sequence : List PySem.Str := ["value"]
abbrev pm_is_less : List PySem.Str := ["one", "other"]
abbrev pm_is_integer : List PySem.Str := ["value"]
abbrev pm_divisor : List PySem.Str := ["one", "other"]
abbrev pm_is_pair : List PySem.Str := ["value"]
abbrev pm_is_value : List PySem.Str := ["value"]
abbrev pm_value_of : List PySem.Str := ["value"]
abbrev pm_is_between : List PySem.Str := ["value", "low", "high"]
abbrev pm_is_share : List PySem.Str := ["value", "low", "high"]
abbrev pm_is_weight : List PySem.Str := ["value", "low", "high"]
abbrev pm_ascending : List PySem.Str := ["values"]
abbrev pm_lowest : List PySem.Str := ["top", "low"]
abbrev pm_added : List PySem.Str := ["one", "other"]
abbrev pm_summed : List PySem.Str := ["values"]
abbrev pm_least_shares : List PySem.Str := ["shares"]
abbrev pm_least_weights : List PySem.Str := ["weights"]
abbrev pm_need_stretch : List PySem.Str := ["low", "high"]
abbrev pm_Rule_init : List PySem.Str := ["self", "low", "high", "weights", "shares"]
abbrev pm_Rule_neg : List PySem.Str := ["self"]
abbrev pm_Rule_add : List PySem.Str := ["self", "other"]
abbrev pm_Rule_sub : List PySem.Str := ["self", "other"]
abbrev pm_trimmed : List PySem.Str := ["counts"]
abbrev pm_integers_of : List PySem.Str := ["powers"]
abbrev pm_quotient : List PySem.Str := ["one", "other"]
abbrev pm_area_powers : List PySem.Str := ["powers"]
abbrev pm_less_by : List PySem.Str := ["one", "other"]
abbrev pm_multiplied : List PySem.Str := ["one", "other"]
abbrev pm_value_at_rules : List PySem.Str := ["powers", "place"]
abbrev pm_told : List PySem.Str := ["rule", "powers"]
abbrev pm_degree : List PySem.Str := ["rule"]
abbrev pm_is_exact_enough : List PySem.Str := ["rule", "n"]
abbrev pm_plus : List PySem.Str := ["one", "other", "by"]
abbrev pm_primitive : List PySem.Str := ["poly"]
abbrev pm_product : List PySem.Str := ["one", "other"]
abbrev pm_sign_of : List PySem.Str := ["number"]
abbrev pm_parted : List PySem.Str := ["one", "other"]
abbrev pm_rest : List PySem.Str := ["one", "other"]
abbrev pm_upright : List PySem.Str := ["poly"]
abbrev pm_common : List PySem.Str := ["one", "other"]
abbrev pm_derived : List PySem.Str := ["poly"]
abbrev pm_divided : List PySem.Str := ["one", "other"]
abbrev pm_parts_of : List PySem.Str := ["poly"]
abbrev pm_chain_of : List PySem.Str := ["poly"]
abbrev pm_sign_changes : List PySem.Str := ["told"]
abbrev pm_value_at_polys : List PySem.Str := ["poly", "spot"]
abbrev pm_changes_at : List PySem.Str := ["chain", "at"]
abbrev pm_once_each : List PySem.Str := ["poly"]
abbrev pm_roots_between : List PySem.Str := ["poly", "start", "end"]
abbrev pm_without_ends : List PySem.Str := ["poly", "start", "end"]
abbrev pm_is_nowhere_below : List PySem.Str := ["poly", "start", "end"]
abbrev pm_knots_of : List PySem.Str := ["rule"]
abbrev pm_powered : List PySem.Str := ["value", "many"]
abbrev pm_ways : List PySem.Str := ["many", "chosen"]
abbrev pm_distance_power : List PySem.Str := ["place", "many", "factor"]
abbrev pm_sum_of : List PySem.Str := ["one", "other"]
abbrev pm_piece : List PySem.Str := ["rule", "n", "start", "end"]
abbrev pm_kernel : List PySem.Str := ["rule", "n"]
abbrev pm_never_below : List PySem.Str := ["rule", "n"]
abbrev pm_compare : List PySem.Str := ["one", "other", "n"]
abbrev pm_need : List PySem.Str := ["is_good"]
abbrev pm_Desk_answer : List PySem.Str := ["self", "word", "rest"]
abbrev pm_shown_text : List PySem.Str := ["rule"]
abbrev pm_Desk_keep : List PySem.Str := ["self", "name", "rule"]
abbrev pm_number_in : List PySem.Str := ["word"]
abbrev pm_value_in : List PySem.Str := ["word"]
abbrev pm_words_in : List PySem.Str := ["line", "at"]
abbrev pm_Rule_read : List PySem.Str := ["cls", "text"]
abbrev pm_is_name : List PySem.Str := ["word"]
abbrev pm_Desk_say : List PySem.Str := ["self", "command"]
abbrev pm_Live_init : List PySem.Str := ["self", "low", "high"]
abbrev pm_Live_len : List PySem.Str := ["self"]
abbrev pm_Live_shown : List PySem.Str := ["self"]
abbrev pm_Live_grow : List PySem.Str := ["self", "weights", "shares"]
abbrev pm_Live_cover : List PySem.Str := ["self", "start", "end", "share"]
abbrev pm_Live_is_for : List PySem.Str := ["self", "n"]
abbrev pm_Live_put : List PySem.Str := ["self", "point", "weight"]
abbrev pm_Live_several : List PySem.Str := ["self", "weights"]
abbrev pm_led_point : List PySem.Str := ["low", "first", "wide", "point"]
abbrev pm_Rule_led : List PySem.Str := ["self", "low", "high"]
abbrev pm_Rule_scaled : List PySem.Str := ["self", "factor"]
abbrev pm_area : List PySem.Str := ["low", "high"]
abbrev pm_need_points : List PySem.Str := ["low", "high", "points"]
abbrev pm_powers_of : List PySem.Str := ["point", "others"]
abbrev pm_best : List PySem.Str := ["low", "high", "points"]
abbrev pm_best_kinds : List PySem.Str := ["one", "other", "most"]
abbrev pm_brackets : List PySem.Str := ["rules", "n"]
abbrev pm_finer : List PySem.Str := ["rule", "many"]
abbrev pm_mixed : List PySem.Str := ["rule", "parts"]
abbrev pm_w_made_right : List PySem.Str := ["_law_zends", "_law_zmiddle", "_law_zwhole"]
abbrev pm_w_number : List PySem.Str := ["_law_script", "_law_zturn"]
abbrev pm_told_kink : List PySem.Str := ["rule", "place", "power"]
abbrev pm_Block_init : List PySem.Str := ["self", "live"]
abbrev pm_Block_enter : List PySem.Str := ["self"]
abbrev pm_Block_exit : List PySem.Str := ["self", "kind", "value", "trace"]
abbrev pm_Live_within : List PySem.Str := ["self", "work"]
abbrev pm_law : List PySem.Str := ["_law_script"]
structure Txt (K : PySem.W.Frag) (mg : PySem.Str → Option Value) where
  Block : ClT K mg 3
  Desk : ClT K mg 4
  Live : ClT K mg 2
  Rule : ClT K mg 0
  Desk_init : FnM K Desk.C "__init__" "Desk.__init__" s_Desk_init
  mk_Desk : Mk K Desk.C Desk_init.f
  Desk_has : FnM K Desk.C "has" "Desk.has" s_Desk_has
  text_of : FnT K mg "text_of" s_text_of
  Rule_str : FnM K Rule.C "__str__" "Rule.__str__" s_Rule_str
  Rule_eq : FnM K Rule.C "__eq__" "Rule.__eq__" s_Rule_eq
  is_sequence : FnT K mg "is_sequence" s_is_sequence
  is_less : FnT K mg "is_less" s_is_less
  is_integer : FnT K mg "is_integer" s_is_integer
  divisor : FnT K mg "divisor" s_divisor
  is_pair : FnT K mg "is_pair" s_is_pair
  is_value : FnT K mg "is_value" s_is_value
  value_of : FnT K mg "value_of" s_value_of
  is_between : FnT K mg "is_between" s_is_between
  is_share : FnT K mg "is_share" s_is_share
  is_weight : FnT K mg "is_weight" s_is_weight
  ascending : FnT K mg "ascending" s_ascending
  lowest : FnT K mg "lowest" s_lowest
  added : FnT K mg "added" s_added
  summed : FnT K mg "summed" s_summed
  least_shares : FnT K mg "least_shares" s_least_shares
  least_weights : FnT K mg "least_weights" s_least_weights
  need_stretch : FnT K mg "need_stretch" s_need_stretch
  Rule_init : FnMD K Rule.C "__init__" "Rule.__init__" s_Rule_init [.tup [], .tup []]
  mk_Rule : Mk K Rule.C Rule_init.f
  Rule_neg : FnM K Rule.C "__neg__" "Rule.__neg__" s_Rule_neg
  Rule_add : FnM K Rule.C "__add__" "Rule.__add__" s_Rule_add
  Rule_sub : FnM K Rule.C "__sub__" "Rule.__sub__" s_Rule_sub
  trimmed : FnT K mg "trimmed" s_trimmed
  integers_of : FnT K mg "integers_of" s_integers_of
  quotient : FnT K mg "quotient" s_quotient
  area_powers : FnT K mg "area_powers" s_area_powers
  less_by : FnT K mg "less_by" s_less_by
  multiplied : FnT K mg "multiplied" s_multiplied
  value_at_rules : FnA K mg "value_at_rules" "value_at" s_value_at_rules
  told : FnT K mg "told" s_told
  degree : FnT K mg "degree" s_degree
  is_exact_enough : FnT K mg "is_exact_enough" s_is_exact_enough
  plus : FnD K mg "plus" s_plus [.int (1)]
  primitive : FnT K mg "primitive" s_primitive
  product : FnT K mg "product" s_product
  sign_of : FnT K mg "sign_of" s_sign_of
  parted : FnT K mg "parted" s_parted
  rest : FnT K mg "rest" s_rest
  upright : FnT K mg "upright" s_upright
  common : FnT K mg "common" s_common
  derived : FnT K mg "derived" s_derived
  divided : FnT K mg "divided" s_divided
  parts_of : FnT K mg "parts_of" s_parts_of
  chain_of : FnT K mg "chain_of" s_chain_of
  sign_changes : FnT K mg "sign_changes" s_sign_changes
  value_at_polys : FnA K mg "value_at_polys" "value_at" s_value_at_polys
  changes_at : FnT K mg "changes_at" s_changes_at
  once_each : FnT K mg "once_each" s_once_each
  roots_between : FnT K mg "roots_between" s_roots_between
  without_ends : FnT K mg "without_ends" s_without_ends
  is_nowhere_below : FnT K mg "is_nowhere_below" s_is_nowhere_below
  knots_of : FnT K mg "knots_of" s_knots_of
  powered : FnT K mg "powered" s_powered
  ways : FnT K mg "ways" s_ways
  distance_power : FnT K mg "distance_power" s_distance_power
  sum_of : FnT K mg "sum_of" s_sum_of
  piece : FnT K mg "piece" s_piece
  kernel : FnT K mg "kernel" s_kernel
  never_below : FnT K mg "never_below" s_never_below
  compare : FnT K mg "compare" s_compare
  need : FnT K mg "need" s_need
  Desk_answer : FnM K Desk.C "answer" "Desk.answer" s_Desk_answer
  shown_text : FnT K mg "shown_text" s_shown_text
  Desk_keep : FnM K Desk.C "keep" "Desk.keep" s_Desk_keep
  number_in : FnT K mg "number_in" s_number_in
  value_in : FnT K mg "value_in" s_value_in
  words_in : FnT K mg "words_in" s_words_in
  Rule_read : FnCM K Rule.C "read" "Rule.read" s_Rule_read
  is_name : FnT K mg "is_name" s_is_name
  Desk_say : FnM K Desk.C "say" "Desk.say" s_Desk_say
  Live_init : FnM K Live.C "__init__" "Live.__init__" s_Live_init
  mk_Live : Mk K Live.C Live_init.f
  Live_len : FnM K Live.C "__len__" "Live.__len__" s_Live_len
  Live_shown : FnP K Live.C "shown" "Live.shown" s_Live_shown
  Live_grow : FnM K Live.C "grow" "Live.grow" s_Live_grow
  Live_cover : FnM K Live.C "cover" "Live.cover" s_Live_cover
  Live_is_for : FnM K Live.C "is_for" "Live.is_for" s_Live_is_for
  Live_put : FnM K Live.C "put" "Live.put" s_Live_put
  Live_several : FnM K Live.C "several" "Live.several" s_Live_several
  led_point : FnT K mg "led_point" s_led_point
  Rule_led : FnM K Rule.C "led" "Rule.led" s_Rule_led
  Rule_scaled : FnM K Rule.C "scaled" "Rule.scaled" s_Rule_scaled
  area : FnT K mg "area" s_area
  need_points : FnT K mg "need_points" s_need_points
  powers_of : FnT K mg "powers_of" s_powers_of
  best : FnT K mg "best" s_best
  best_kinds : FnT K mg "best_kinds" s_best_kinds
  brackets : FnT K mg "brackets" s_brackets
  finer : FnT K mg "finer" s_finer
  mixed : FnT K mg "mixed" s_mixed
  w_made_right : FnT K mg "_law_made_right" s_w_made_right
  w_number : FnT K mg "_law_number" s_w_number
  told_kink : FnT K mg "told_kink" s_told_kink
  Block_init : FnM K Block.C "__init__" "Block.__init__" s_Block_init
  mk_Block : Mk K Block.C Block_init.f
  Block_enter : FnM K Block.C "__enter__" "Block.__enter__" s_Block_enter
  Block_exit : FnM K Block.C "__exit__" "Block.__exit__" s_Block_exit
  Live_within : FnM K Live.C "within" "Live.within" s_Live_within
  law : FnT K mg "law" s_law
  is_Rule : IsT K Rule.C
  nf_Rule : PySem.W.notFirst K Rule.C (.ref Rule.C) = true
  om_Rule : PySem.W.mroIn K Rule.C (.type "object") = some true
  on_Rule : PySem.W.findIn K (.ref Rule.C) "__ne__" = some (some (.builtin "object.__ne__"))
  sf_Rule : PySem.W.selfFirst K Rule.C = true
  DIGITS : CoT K mg "DIGITS" c_DIGITS
  KINDS : CoT K mg "KINDS" c_KINDS
  LETTERS : CoT K mg "LETTERS" c_LETTERS
  MOST_DIGITS : CoT K mg "MOST_DIGITS" c_MOST_DIGITS
  NOUGHT : CoT K mg "NOUGHT" c_NOUGHT
  ONE : CoT K mg "ONE" c_ONE
  abs : mg "abs" = none
  all : mg "all" = none
  any : mg "any" = none
  bool : mg "bool" = none
  enumerate : mg "enumerate" = none
  int : mg "int" = none
  isinstance : mg "isinstance" = none
  len : mg "len" = none
  list : mg "list" = none
  max : mg "max" = none
  min : mg "min" = none
  range : mg "range" = none
  set : mg "set" = none
  sorted : mg "sorted" = none
  str : mg "str" = none
  tuple : mg "tuple" = none
  zip : mg "zip" = none
section
variable {P : Program} {w : World} {K : PySem.W.Frag} {mg : PySem.Str → Option Value} {base : Heap}
theorem sc_Desk_init : FnScope nm_Desk_init pm_Desk_init (defScope s_Desk_init) := ⟨rfl, rfl, rfl, by decide +kernel, rfl, by decide +kernel, by decide +kernel⟩
theorem len1 {α : Type} {us : List α} (hl : us.length = 1) : ∃ a0, us = [a0] := match us, hl with | [a0], _ => ⟨a0, rfl⟩
theorem len2 {α : Type} {us : List α} (hl : us.length = 2) : ∃ a0 a1, us = [a0, a1] := match us, hl with | [a0, a1], _ => ⟨a0, a1, rfl⟩
theorem len3 {α : Type} {us : List α} (hl : us.length = 3) : ∃ a0 a1 a2, us = [a0, a1, a2] := match us, hl with | [a0, a1, a2], _ => ⟨a0, a1, a2, rfl⟩
theorem len4 {α : Type} {us : List α} (hl : us.length = 4) : ∃ a0 a1 a2 a3, us = [a0, a1, a2, a3] := match us, hl with | [a0, a1, a2, a3], _ => ⟨a0, a1, a2, a3, rfl⟩
theorem bi_Desk_init (T : Txt K mg) : Binds K T.Desk_init.fd pm_Desk_init [] := T.Desk_init.F.binds fun _ _ _ _ _ _ us hl => by obtain ⟨_, rfl⟩ := len1 hl; rfl
theorem ok_Desk_init (T : Txt K mg) : FnOk P w K mg base CX0 1 T.Desk_init.f T.Desk_init.fd pm_Desk_init (spB K r_Desk_init) := by
  have nd := sc_Desk_init.nd
  refine data_B T.Desk_init.F sc_Desk_init fun cdv A outer s H E hr => ?_
  refine ⟨_, (pss_one (kps_fld (K := K) rfl (pv 0) pe_dnewK rfl)), ?_⟩
  exact ((sk_setf T.Desk rfl gk_dnew) : SOk K _ b_Desk_init)
theorem sc_Desk_has : FnScope nm_Desk_has pm_Desk_has (defScope s_Desk_has) := ⟨rfl, rfl, rfl, by decide +kernel, rfl, by decide +kernel, by decide +kernel⟩
theorem bi_Desk_has (T : Txt K mg) : Binds K T.Desk_has.fd pm_Desk_has [] := T.Desk_has.F.binds fun _ _ _ _ _ _ us hl => by obtain ⟨_, _, rfl⟩ := len2 hl; rfl
theorem ok_Desk_has (T : Txt K mg) : FnOk P w K mg base CX0 1 T.Desk_has.f T.Desk_has.fd pm_Desk_has (spB K r_Desk_has) := by
  have nd := sc_Desk_has.nd
  refine data_B T.Desk_has.F sc_Desk_has fun cdv A outer s H E hr => ?_
  refine ⟨_, (pss_one (ps_ret (pe_callB (kcr_all (K := K) rfl rfl) (by rfl) T.all (by decide +kernel) (pa_cons (pe_lc (own := [("name", 2)]) rfl nd (kpi_seq (K := K) rfl (pv 1)) (blkOk_by (N := nm_Desk_has) (sc := defScope s_Desk_has) (by decide +kernel)) (fun _ _ _ _ _ => (pg_name (i := 2) nd rfl (Or.inl rfl))) (fun _ _ _ _ _ => pts_nil) (fun _ _ _ _ _ => (pe_cmpR (op_dIn (r70 hr)) (pv 2) (kpe_fld (K := K) rfl (pv 0) rfl) (by rfl)))) pa_nil)))), ?_⟩
  exact ((sk_ret (gk_cb cd_all (ak_cons (gk_lc (ik_seq gk_var) gt_name tk_yes (gk_op od_dIn gk_var (gk_fldv T.Desk rfl)) (by decide)) ak_nil))) : SOk K _ b_Desk_has)
theorem sc_text_of : FnScope nm_text_of pm_text_of (defScope s_text_of) := ⟨rfl, rfl, rfl, by decide +kernel, rfl, by decide +kernel, by decide +kernel⟩
theorem bi_text_of (T : Txt K mg) : Binds K T.text_of.fd pm_text_of [] := T.text_of.F.binds fun _ _ _ _ _ _ us hl => by obtain ⟨_, rfl⟩ := len1 hl; rfl
theorem ok_text_of (T : Txt K mg) : FnOk P w K mg base CX0 1 T.text_of.f T.text_of.fd pm_text_of (spF K r_text_of) := by
  have nd := sc_text_of.nd
  refine data_F T.text_of.F sc_text_of fun cdv A outer s H E hr => ?_
  refine ⟨_, (pss_one (ps_ret (pe_ifExp (pt_cmpR (kop_eq (K := K) rfl hr.units) (pe_ix (kix (K := K) rfl) (pv 0) pe_int (fun _ _ => rfl)) pe_int (nomark _)) (pe_callTy cr_str (by rfl) T.str (by decide +kernel) (pa_cons (pe_ix (kix (K := K) rfl) (pv 0) pe_int (fun _ _ => rfl)) pa_nil)) (pe_joined (.cons (pe_fmt (pe_ix (kix (K := K) rfl) (pv 0) pe_int (fun _ _ => rfl))) (.cons pe_str (.cons (pe_fmt (pe_ix (kix (K := K) rfl) (pv 0) pe_int (fun _ _ => rfl))) .nil))))))), ?_⟩
  exact ((sk_ret (gk_if (tk_test (gk_op od_eq (gk_op od_ix gk_var gk_int) gk_int)) (gk_cb cd_str (ak_cons (gk_op od_ix gk_var gk_int) ak_nil)) (js_ok (.cons (gk_fmt (gk_op od_ix gk_var gk_int)) (.cons gk_str (.cons (gk_fmt (gk_op od_ix gk_var gk_int)) .nil))) Str.empty))) : SOk K _ b_text_of)
theorem sc_Rule_str : FnScope nm_Rule_str pm_Rule_str (defScope s_Rule_str) := ⟨rfl, rfl, rfl, by decide +kernel, rfl, by decide +kernel, by decide +kernel⟩
theorem bi_Rule_str (T : Txt K mg) : Binds K T.Rule_str.fd pm_Rule_str [] := T.Rule_str.F.binds fun _ _ _ _ _ _ us hl => by obtain ⟨_, rfl⟩ := len1 hl; rfl
theorem ok_Rule_str (T : Txt K mg) : FnOk P w K mg base CX0 2 T.Rule_str.f T.Rule_str.fd pm_Rule_str (spF K r_Rule_str) := by
  have nd := sc_Rule_str.nd
  refine data_F T.Rule_str.F sc_Rule_str fun cdv A outer s H E hr => ?_
  refine ⟨_, (pss_cons (ps_set (i := 1) nd rfl (Or.inl rfl) (pe_lst (pa_cons (kpe_join (K := K) rfl pe_str (pe_lst (pa_cons pe_str (pa_cons (pe_call (ok_text_of T) (hr.mono (by decide)) rfl T.text_of.m T.text_of.F.kp (bi_text_of T) .nil pass0 (pa_cons (kpe_fld (K := K) rfl (pv 0) rfl) pa_nil)) (pa_cons (pe_call (ok_text_of T) (hr.mono (by decide)) rfl T.text_of.m T.text_of.F.kp (bi_text_of T) .nil pass0 (pa_cons (kpe_fld (K := K) rfl (pv 0) rfl) pa_nil)) pa_nil))))) pa_nil)))
    (pss_cons (ps_set (i := 1) nd rfl (Or.inl rfl) (pe_lst (kpa_star (K := K) rfl (pv 1) (kpa_star (K := K) rfl (pe_lc (own := [("point", 3), ("weight", 4)]) rfl nd (kpi_seq (K := K) rfl (kpe_fld (K := K) rfl (pv 0) rfl)) (blkOk_by (N := nm_Rule_str) (sc := defScope s_Rule_str) (by decide +kernel)) (fun _ _ _ _ _ => (kpg_tup (K := K) (n := 2) rfl rfl (pgs_cons (pg_name (i := 3) nd rfl (Or.inl rfl)) (pgs_cons (pg_name (i := 4) nd rfl (Or.inl rfl)) pgs_nil)))) (fun _ _ _ _ _ => pts_nil) (fun _ _ _ _ _ => (kpe_join (K := K) rfl pe_str (pe_lst (pa_cons pe_str (pa_cons (pe_call (ok_text_of T) (hr.mono (by decide)) rfl T.text_of.m T.text_of.F.kp (bi_text_of T) .nil pass0 (pa_cons (pv 3) pa_nil)) (pa_cons (pe_call (ok_text_of T) (hr.mono (by decide)) rfl T.text_of.m T.text_of.F.kp (bi_text_of T) .nil pass0 (pa_cons (pv 4) pa_nil)) pa_nil))))))) pa_nil))))
    (pss_cons (ps_setLc (i := 2) (own := [("start", 5), ("end", 6), ("share", 7)]) rfl nd rfl rfl (sw_true rfl rfl rfl (by decide +kernel)) (kpi_seq (K := K) rfl (kpe_fld (K := K) rfl (pv 0) rfl)) (blkOk_by (N := nm_Rule_str) (sc := defScope s_Rule_str) (by decide +kernel)) (fun _ _ _ _ _ => (kpg_tup (K := K) (n := 3) rfl rfl (pgs_cons (pg_name (i := 5) nd rfl (Or.inl rfl)) (pgs_cons (pg_name (i := 6) nd rfl (Or.inl rfl)) (pgs_cons (pg_name (i := 7) nd rfl (Or.inl rfl)) pgs_nil))))) (fun _ _ _ _ _ => pts_nil) (fun _ _ _ _ _ => (kpe_join (K := K) rfl pe_str (pe_lst (pa_cons pe_str (pa_cons (pe_call (ok_text_of T) (hr.mono (by decide)) rfl T.text_of.m T.text_of.F.kp (bi_text_of T) .nil pass0 (pa_cons (pv 5) pa_nil)) (pa_cons (pe_call (ok_text_of T) (hr.mono (by decide)) rfl T.text_of.m T.text_of.F.kp (bi_text_of T) .nil pass0 (pa_cons (pv 6) pa_nil)) (pa_cons (pe_call (ok_text_of T) (hr.mono (by decide)) rfl T.text_of.m T.text_of.F.kp (bi_text_of T) .nil pass0 (pa_cons (pv 7) pa_nil)) pa_nil))))))))
    (pss_one (ps_ret (kpe_join (K := K) rfl pe_str (pe_lst (kpa_star (K := K) rfl (pv 1) (kpa_star (K := K) rfl (pv 2) pa_nil))))))))), ?_⟩
  exact ((sk_seq (sk_set (gk_lst (ak_cons (gk_join gk_str (gk_lst (ak_cons gk_str (ak_cons (gk_call (ak_cons (gk_fld T.Rule rfl gk_var) ak_nil)) (ak_cons (gk_call (ak_cons (gk_fld T.Rule rfl gk_var) ak_nil)) ak_nil))))) ak_nil)))
    (sk_seq (sk_set (gk_lst (ak_star gk_var (ak_star (gk_lc (ik_seq (gk_fld T.Rule rfl gk_var)) (gt_tup (gts_cons gt_name (gts_cons gt_name gts_nil))) tk_yes (gk_join gk_str (gk_lst (ak_cons gk_str (ak_cons (gk_call (ak_cons gk_var ak_nil)) (ak_cons (gk_call (ak_cons gk_var ak_nil)) ak_nil))))) (by decide)) ak_nil))))
    (sk_seq (sk_set (gk_lc (ik_seq (gk_fld T.Rule rfl gk_var)) (gt_tup (gts_cons gt_name (gts_cons gt_name (gts_cons gt_name gts_nil)))) tk_yes (gk_join gk_str (gk_lst (ak_cons gk_str (ak_cons (gk_call (ak_cons gk_var ak_nil)) (ak_cons (gk_call (ak_cons gk_var ak_nil)) (ak_cons (gk_call (ak_cons gk_var ak_nil)) ak_nil)))))) (by decide)))
    (sk_ret (gk_join gk_str (gk_lst (ak_star gk_var (ak_star gk_var ak_nil)))))))) : SOk K _ b_Rule_str)
theorem sc_Rule_eq : FnScope nm_Rule_eq pm_Rule_eq (defScope s_Rule_eq) := ⟨rfl, rfl, rfl, by decide +kernel, rfl, by decide +kernel, by decide +kernel⟩
theorem bi_Rule_eq (T : Txt K mg) : Binds K T.Rule_eq.fd pm_Rule_eq [] := T.Rule_eq.F.binds fun _ _ _ _ _ _ us hl => by obtain ⟨_, _, rfl⟩ := len2 hl; rfl
theorem ok_Rule_eq (T : Txt K mg) : FnOk P w K mg base CX0 5 T.Rule_eq.f T.Rule_eq.fd pm_Rule_eq (spF K r_Rule_eq) := by
  have nd := sc_Rule_eq.nd
  refine data_F T.Rule_eq.F sc_Rule_eq fun cdv A outer s H E hr => ?_
  refine ⟨_, (pss_one (ps_ret (pe_and (pe_callB (kcr_isi (K := K) rfl) (by rfl) T.isinstance (by decide +kernel) (pa_cons (pv 1) (pa_cons (pe_glob (v := .ref T.Rule.C) rfl T.Rule.mg rfl) pa_nil))) (pe_one (pe_cmpR (kop_eq (K := K) rfl hr.units) (pe_callTy (cr_or cr_str (cr_strO (E := E0) T.Rule_str.m.at_ T.Rule_str.m.fn (ok_Rule_str T) (hr.mono (by decide)) (bi_Rule_str T) pass0)) (by rfl) T.str (by decide +kernel) (pa_cons (pv 0) pa_nil)) (pe_callTy (cr_or cr_str (cr_strO (E := E0) T.Rule_str.m.at_ T.Rule_str.m.fn (ok_Rule_str T) (hr.mono (by decide)) (bi_Rule_str T) pass0)) (by rfl) T.str (by decide +kernel) (pa_cons (pv 1) pa_nil)) (nomark _)))))), ?_⟩
  exact ((sk_ret (gk_vand (gk_cb (cd_isiC T.Rule.at_ T.is_Rule) (ak_cons gk_var (ak_cons (gk_c fun _ => .cl T.Rule.at_) ak_nil))) (gk_op od_eq (gk_cb (cd_strO T.Rule.at_) (ak_cons gk_var ak_nil)) (gk_cb (cd_strO T.Rule.at_) (ak_cons gk_var ak_nil))))) : SOk K _ b_Rule_eq)
theorem sc_is_sequence : FnScope nm_is_sequence pm_is_sequence (defScope s_is_sequence) := ⟨rfl, rfl, rfl, by decide +kernel, rfl, by decide +kernel, by decide +kernel⟩
theorem bi_is_sequence (T : Txt K mg) : Binds K T.is_sequence.fd pm_is_sequence [] := T.is_sequence.F.binds fun _ _ _ _ _ _ us hl => by obtain ⟨_, rfl⟩ := len1 hl; rfl
theorem ok_is_sequence (T : Txt K mg) : FnOk P w K mg base CX0 1 T.is_sequence.f T.is_sequence.fd pm_is_sequence (spF K r_is_sequence) := by
  have nd := sc_is_sequence.nd
  refine data_F T.is_sequence.F sc_is_sequence fun cdv A outer s H E hr => ?_
  refine ⟨_, (pss_one (ps_ret (pe_callB (kcr_isiS (K := K) rfl) (by rfl) T.isinstance (by decide +kernel) (pa_cons (pv 0) (pa_cons (pe_tup (pa_cons (pe_bltn (v := .ty "list") (u := .type "list") (by rfl) T.list (by decide +kernel) rfl) (pa_cons (pe_bltn (v := .ty "tuple") (u := .type "tuple") (by rfl) T.tuple (by decide +kernel) rfl) pa_nil))) pa_nil))))), ?_⟩
  exact ((sk_ret (gk_cb cd_isiS (ak_cons gk_var (ak_cons (gk_tup (ak_cons (gk_c fun _ => .ty _) (ak_cons (gk_c fun _ => .ty _) ak_nil))) ak_nil)))) : SOk K _ b_is_sequence)
theorem sc_is_less : FnScope nm_is_less pm_is_less (defScope s_is_less) := ⟨rfl, rfl, rfl, by decide +kernel, rfl, by decide +kernel, by decide +kernel⟩
theorem bi_is_less (T : Txt K mg) : Binds K T.is_less.fd pm_is_less [] := T.is_less.F.binds fun _ _ _ _ _ _ us hl => by obtain ⟨_, _, rfl⟩ := len2 hl; rfl
theorem ok_is_less (T : Txt K mg) : FnOk P w K mg base CX0 1 T.is_less.f T.is_less.fd pm_is_less (spF K r_is_less) := by
  have nd := sc_is_less.nd
  refine data_F T.is_less.F sc_is_less fun cdv A outer s H E hr => ?_
  refine ⟨_, (pss_one (ps_ret (pe_cmpR op_lt (pe_op op_mulA (pe_ix (kix (K := K) rfl) (pv 0) pe_int (fun _ _ => rfl)) (pe_ix (kix (K := K) rfl) (pv 1) pe_int (fun _ _ => rfl))) (pe_op op_mulA (pe_ix (kix (K := K) rfl) (pv 1) pe_int (fun _ _ => rfl)) (pe_ix (kix (K := K) rfl) (pv 0) pe_int (fun _ _ => rfl))) (nomark _)))), ?_⟩
  exact ((sk_ret (gk_op od_lt (gk_op od_mul (gk_op od_ix gk_var gk_int) (gk_op od_ix gk_var gk_int)) (gk_op od_mul (gk_op od_ix gk_var gk_int) (gk_op od_ix gk_var gk_int)))) : SOk K _ b_is_less)
theorem sc_is_integer : FnScope nm_is_integer pm_is_integer (defScope s_is_integer) := ⟨rfl, rfl, rfl, by decide +kernel, rfl, by decide +kernel, by decide +kernel⟩
theorem bi_is_integer (T : Txt K mg) : Binds K T.is_integer.fd pm_is_integer [] := T.is_integer.F.binds fun _ _ _ _ _ _ us hl => by obtain ⟨_, rfl⟩ := len1 hl; rfl
theorem ok_is_integer (T : Txt K mg) : FnOk P w K mg base CX0 1 T.is_integer.f T.is_integer.fd pm_is_integer (spF K r_is_integer) := by
  have nd := sc_is_integer.nd
  refine data_F T.is_integer.F sc_is_integer fun cdv A outer s H E hr => ?_
  refine ⟨_, (pss_one (ps_ret (pe_and (pe_callB (kcr_isi (K := K) rfl) (by rfl) T.isinstance (by decide +kernel) (pa_cons (pv 0) (pa_cons (pe_bltn (v := .ty "int") (u := .type "int") (by rfl) T.int (by decide +kernel) rfl) pa_nil))) (pe_one (pe_not (pe_callB (kcr_isi (K := K) rfl) (by rfl) T.isinstance (by decide +kernel) (pa_cons (pv 0) (pa_cons (pe_bltn (v := .ty "bool") (u := .type "bool") (by rfl) T.bool (by decide +kernel) rfl) pa_nil)))))))), ?_⟩
  exact ((sk_ret (gk_vand (gk_cb cd_isi (ak_cons gk_var (ak_cons (gk_c fun _ => .ty _) ak_nil))) (gk_vnot (gk_cb cd_isi (ak_cons gk_var (ak_cons (gk_c fun _ => .ty _) ak_nil)))))) : SOk K _ b_is_integer)
theorem sc_divisor : FnScope nm_divisor pm_divisor (defScope s_divisor) := ⟨rfl, rfl, rfl, by decide +kernel, rfl, by decide +kernel, by decide +kernel⟩
theorem bi_divisor (T : Txt K mg) : Binds K T.divisor.fd pm_divisor [] := T.divisor.F.binds fun _ _ _ _ _ _ us hl => by obtain ⟨_, _, rfl⟩ := len2 hl; rfl
theorem ok_divisor (T : Txt K mg) : FnOk P w K mg base CX0 1 T.divisor.f T.divisor.fd pm_divisor (spF K r_divisor) := by
  have nd := sc_divisor.nd
  refine data_F T.divisor.F sc_divisor fun cdv A outer s H E hr => ?_
  refine ⟨_, (pss_cons (ps_par (i := 0) (j := 1) rfl nd rfl rfl (by decide) rfl rfl (pa_cons (pe_callB cr_abs (by rfl) T.abs (by decide +kernel) (pa_cons (pv 0) pa_nil)) (pa_cons (pe_callB cr_abs (by rfl) T.abs (by decide +kernel) (pa_cons (pv 1) pa_nil)) pa_nil)) (by rfl))
    (pss_cons (ps_while PassesOwn.never (pt_cmpR (kop_ne (K := K) rfl hr.units) (pv 1) pe_int (nomark _)) (pss_one (ps_par (i := 0) (j := 1) rfl nd rfl rfl (by decide) rfl rfl (pa_cons (pv 1) (pa_cons (pe_op op_modA (pv 0) (pv 1)) pa_nil)) (by rfl))))
    (pss_one (ps_ret (pv 0))))), ?_⟩
  exact ((sk_seq (sk_ypar (yk_cons (gk_cb cd_abs (ak_cons gk_var ak_nil)) (yk_cons (gk_cb cd_abs (ak_cons gk_var ak_nil)) yk_nil)))
    (sk_seq (sk_while (fuelI 1) (tk_test (gk_op od_ne gk_var gk_int)) ((sk_ypar (yk_cons gk_var (yk_cons (gk_op od_mod gk_var gk_var) yk_nil))) : SOk K _ b_divisor_1))
    (sk_ret gk_mv))) : SOk K _ b_divisor)
theorem sc_is_pair : FnScope nm_is_pair pm_is_pair (defScope s_is_pair) := ⟨rfl, rfl, rfl, by decide +kernel, rfl, by decide +kernel, by decide +kernel⟩
theorem bi_is_pair (T : Txt K mg) : Binds K T.is_pair.fd pm_is_pair [] := T.is_pair.F.binds fun _ _ _ _ _ _ us hl => by obtain ⟨_, rfl⟩ := len1 hl; rfl
theorem ok_is_pair (T : Txt K mg) : FnOk P w K mg base CX0 2 T.is_pair.f T.is_pair.fd pm_is_pair (spF K r_is_pair) := by
  have nd := sc_is_pair.nd
  refine data_F T.is_pair.F sc_is_pair fun cdv A outer s H E hr => ?_
  refine ⟨_, (pss_cons (ps_if (PW.pt (pw_or (pt_not (kpt_tru (K := K) rfl (pe_callB (kcr_isi (K := K) rfl) (by rfl) T.isinstance (by decide +kernel) (pa_cons (pv 0) (pa_cons (pe_bltn (v := .ty "tuple") (u := .type "tuple") (by rfl) T.tuple (by decide +kernel) rfl) pa_nil))) (by intro _; rfl))) (pw_or (pt_cmpR (kop_ne (K := K) rfl hr.units) (pe_callB (kcr_len (K := K) rfl) (by rfl) T.len (by decide +kernel) (pa_cons (pv 0) pa_nil)) pe_int (nomark _)) (pw_or1 (pt_not (kpt_tru (K := K) rfl (pe_callB (kcr_all (K := K) rfl rfl) (by rfl) T.all (by decide +kernel) (pa_cons (pe_lc (own := [("one", 1)]) rfl nd (kpi_seq (K := K) rfl (pv 0)) (blkOk_by (N := nm_is_pair) (sc := defScope s_is_pair) (by decide +kernel)) (fun _ _ _ _ _ => (pg_name (i := 1) nd rfl (Or.inl rfl))) (fun _ _ _ _ _ => pts_nil) (fun _ _ _ _ _ => (pe_call (ok_is_integer T) (hr.mono (by decide)) rfl T.is_integer.m T.is_integer.F.kp (bi_is_integer T) .nil pass0 (pa_cons (pv 1) pa_nil)))) pa_nil)) (by intro _; rfl))))))) (pss_one (ps_ret pe_bl)) pss_nil)
    (pss_one (ps_ret (pe_and (pe_cmpR op_gt (pe_ix (kix (K := K) rfl) (pv 0) pe_int (fun _ _ => rfl)) pe_int (nomark _)) (pe_one (pe_cmpR (kop_eq (K := K) rfl hr.units) (pe_call (ok_divisor T) (hr.mono (by decide)) rfl T.divisor.m T.divisor.F.kp (bi_divisor T) .nil pass0 (pa_cons (pe_ix (kix (K := K) rfl) (pv 0) pe_int (fun _ _ => rfl)) (pa_cons (pe_ix (kix (K := K) rfl) (pv 0) pe_int (fun _ _ => rfl)) pa_nil))) pe_int (nomark _))))))), ?_⟩
  exact ((sk_seq (sk_if (tk_or (tk_not (tk_truK (gk_cb cd_isi (ak_cons gk_var (ak_cons (gk_c fun _ => .ty _) ak_nil))))) (tk_or (tk_test (gk_op od_ne (gk_cb cd_len (ak_cons gk_var ak_nil)) gk_int)) (tk_not (tk_truK (gk_cb cd_all (ak_cons (gk_lc (ik_seq gk_var) gt_name tk_yes (gk_call (ak_cons gk_var ak_nil)) (by decide)) ak_nil)))))) (sk_ret gk_bl) sk_next)
    (sk_ret (gk_vand (gk_op od_gt (gk_op od_ix gk_var gk_int) gk_int) (gk_op od_eq (gk_call (ak_cons (gk_op od_ix gk_var gk_int) (ak_cons (gk_op od_ix gk_var gk_int) ak_nil))) gk_int)))) : SOk K _ b_is_pair)
theorem sc_is_value : FnScope nm_is_value pm_is_value (defScope s_is_value) := ⟨rfl, rfl, rfl, by decide +kernel, rfl, by decide +kernel, by decide +kernel⟩
theorem bi_is_value (T : Txt K mg) : Binds K T.is_value.fd pm_is_value [] := T.is_value.F.binds fun _ _ _ _ _ _ us hl => by obtain ⟨_, rfl⟩ := len1 hl; rfl
theorem ok_is_value (T : Txt K mg) : FnOk P w K mg base CX0 3 T.is_value.f T.is_value.fd pm_is_value (spF K r_is_value) := by
  have nd := sc_is_value.nd
  refine data_F T.is_value.F sc_is_value fun cdv A outer s H E hr => ?_
  refine ⟨_, (pss_one (ps_ret (pe_or (pe_call (ok_is_integer T) (hr.mono (by decide)) rfl T.is_integer.m T.is_integer.F.kp (bi_is_integer T) .nil pass0 (pa_cons (pv 0) pa_nil)) (pe_one (pe_call (ok_is_pair T) (hr.mono (by decide)) rfl T.is_pair.m T.is_pair.F.kp (bi_is_pair T) .nil pass0 (pa_cons (pv 0) pa_nil)))))), ?_⟩
  exact ((sk_ret (gk_vor (gk_call (ak_cons gk_var ak_nil)) (gk_call (ak_cons gk_var ak_nil)))) : SOk K _ b_is_value)
theorem sc_value_of : FnScope nm_value_of pm_value_of (defScope s_value_of) := ⟨rfl, rfl, rfl, by decide +kernel, rfl, by decide +kernel, by decide +kernel⟩
theorem bi_value_of (T : Txt K mg) : Binds K T.value_of.fd pm_value_of [] := T.value_of.F.binds fun _ _ _ _ _ _ us hl => by obtain ⟨_, rfl⟩ := len1 hl; rfl
theorem ok_value_of (T : Txt K mg) : FnOk P w K mg base CX0 2 T.value_of.f T.value_of.fd pm_value_of (spF K r_value_of) := by
  have nd := sc_value_of.nd
  refine data_F T.value_of.F sc_value_of fun cdv A outer s H E hr => ?_
  refine ⟨_, (pss_one (ps_ret (pe_ifExp (kpt_tru (K := K) rfl (pe_call (ok_is_integer T) (hr.mono (by decide)) rfl T.is_integer.m T.is_integer.F.kp (bi_is_integer T) .nil pass0 (pa_cons (pv 0) pa_nil)) (by intro _; rfl)) (pe_tup (pa_cons (pv 0) (pa_cons pe_int pa_nil))) (pv 0)))), ?_⟩
  exact ((sk_ret (gk_if (tk_truK (gk_call (ak_cons gk_var ak_nil))) (gk_tup (ak_cons gk_var (ak_cons gk_int ak_nil))) gk_var)) : SOk K _ b_value_of)
theorem sc_is_between : FnScope nm_is_between pm_is_between (defScope s_is_between) := ⟨rfl, rfl, rfl, by decide +kernel, rfl, by decide +kernel, by decide +kernel⟩
theorem bi_is_between (T : Txt K mg) : Binds K T.is_between.fd pm_is_between [] := T.is_between.F.binds fun _ _ _ _ _ _ us hl => by obtain ⟨_, _, _, rfl⟩ := len3 hl; rfl
theorem ok_is_between (T : Txt K mg) : FnOk P w K mg base CX0 4 T.is_between.f T.is_between.fd pm_is_between (spF K r_is_between) := by
  have nd := sc_is_between.nd
  refine data_F T.is_between.F sc_is_between fun cdv A outer s H E hr => ?_
  refine ⟨_, (pss_one (ps_ret (pe_and (pe_call (ok_is_value T) (hr.mono (by decide)) rfl T.is_value.m T.is_value.F.kp (bi_is_value T) .nil pass0 (pa_cons (pv 0) pa_nil)) (pe_and (pe_not (pe_call (ok_is_less T) (hr.mono (by decide)) rfl T.is_less.m T.is_less.F.kp (bi_is_less T) .nil pass0 (pa_cons (pe_call (ok_value_of T) (hr.mono (by decide)) rfl T.value_of.m T.value_of.F.kp (bi_value_of T) .nil pass0 (pa_cons (pv 0) pa_nil)) (pa_cons (pv 1) pa_nil)))) (pe_one (pe_not (pe_call (ok_is_less T) (hr.mono (by decide)) rfl T.is_less.m T.is_less.F.kp (bi_is_less T) .nil pass0 (pa_cons (pv 2) (pa_cons (pe_call (ok_value_of T) (hr.mono (by decide)) rfl T.value_of.m T.value_of.F.kp (bi_value_of T) .nil pass0 (pa_cons (pv 0) pa_nil)) pa_nil))))))))), ?_⟩
  exact ((sk_ret (gk_vand (gk_call (ak_cons gk_var ak_nil)) (gk_vand (gk_vnot (gk_call (ak_cons (gk_call (ak_cons gk_var ak_nil)) (ak_cons gk_var ak_nil)))) (gk_vnot (gk_call (ak_cons gk_var (ak_cons (gk_call (ak_cons gk_var ak_nil)) ak_nil))))))) : SOk K _ b_is_between)
theorem sc_is_share : FnScope nm_is_share pm_is_share (defScope s_is_share) := ⟨rfl, rfl, rfl, by decide +kernel, rfl, by decide +kernel, by decide +kernel⟩
theorem bi_is_share (T : Txt K mg) : Binds K T.is_share.fd pm_is_share [] := T.is_share.F.binds fun _ _ _ _ _ _ us hl => by obtain ⟨_, _, _, rfl⟩ := len3 hl; rfl
theorem ok_is_share (T : Txt K mg) : FnOk P w K mg base CX0 5 T.is_share.f T.is_share.fd pm_is_share (spF K r_is_share) := by
  have nd := sc_is_share.nd
  refine data_F T.is_share.F sc_is_share fun cdv A outer s H E hr => ?_
  refine ⟨_, (pss_cons (ps_if (PW.pt (pw_or (pt_not (kpt_tru (K := K) rfl (pe_callB (kcr_isi (K := K) rfl) (by rfl) T.isinstance (by decide +kernel) (pa_cons (pv 0) (pa_cons (pe_bltn (v := .ty "tuple") (u := .type "tuple") (by rfl) T.tuple (by decide +kernel) rfl) pa_nil))) (by intro _; rfl))) (pw_or (pt_cmpR (kop_ne (K := K) rfl hr.units) (pe_callB (kcr_len (K := K) rfl) (by rfl) T.len (by decide +kernel) (pa_cons (pv 0) pa_nil)) pe_int (nomark _)) (pw_or1 (pt_not (kpt_tru (K := K) rfl (pe_call (ok_is_value T) (hr.mono (by decide)) rfl T.is_value.m T.is_value.F.kp (bi_is_value T) .nil pass0 (pa_cons (pe_ix (kix (K := K) rfl) (pv 0) pe_int (fun _ _ => rfl)) pa_nil)) (by intro _; rfl))))))) (pss_one (ps_ret pe_bl)) pss_nil)
    (pss_cons (ps_if (PW.pt (pw_or (pt_not (kpt_tru (K := K) rfl (pe_call (ok_is_between T) (hr.mono (by decide)) rfl T.is_between.m T.is_between.F.kp (bi_is_between T) .nil pass0 (pa_cons (pe_ix (kix (K := K) rfl) (pv 0) pe_int (fun _ _ => rfl)) (pa_cons (pv 1) (pa_cons (pv 2) pa_nil)))) (by intro _; rfl))) (pw_or1 (pt_not (kpt_tru (K := K) rfl (pe_call (ok_is_between T) (hr.mono (by decide)) rfl T.is_between.m T.is_between.F.kp (bi_is_between T) .nil pass0 (pa_cons (pe_ix (kix (K := K) rfl) (pv 0) pe_int (fun _ _ => rfl)) (pa_cons (pv 1) (pa_cons (pv 2) pa_nil)))) (by intro _; rfl)))))) (pss_one (ps_ret pe_bl)) pss_nil)
    (pss_one (ps_ret (pe_call (ok_is_less T) (hr.mono (by decide)) rfl T.is_less.m T.is_less.F.kp (bi_is_less T) .nil pass0 (pa_cons (pe_call (ok_value_of T) (hr.mono (by decide)) rfl T.value_of.m T.value_of.F.kp (bi_value_of T) .nil pass0 (pa_cons (pe_ix (kix (K := K) rfl) (pv 0) pe_int (fun _ _ => rfl)) pa_nil)) (pa_cons (pe_call (ok_value_of T) (hr.mono (by decide)) rfl T.value_of.m T.value_of.F.kp (bi_value_of T) .nil pass0 (pa_cons (pe_ix (kix (K := K) rfl) (pv 0) pe_int (fun _ _ => rfl)) pa_nil)) pa_nil))))))), ?_⟩
  exact ((sk_seq (sk_if (tk_or (tk_not (tk_truK (gk_cb cd_isi (ak_cons gk_var (ak_cons (gk_c fun _ => .ty _) ak_nil))))) (tk_or (tk_test (gk_op od_ne (gk_cb cd_len (ak_cons gk_var ak_nil)) gk_int)) (tk_not (tk_truK (gk_call (ak_cons (gk_op od_ix gk_var gk_int) ak_nil)))))) (sk_ret gk_bl) sk_next)
    (sk_seq (sk_if (tk_or (tk_not (tk_truK (gk_call (ak_cons (gk_op od_ix gk_var gk_int) (ak_cons gk_var (ak_cons gk_var ak_nil)))))) (tk_not (tk_truK (gk_call (ak_cons (gk_op od_ix gk_var gk_int) (ak_cons gk_var (ak_cons gk_var ak_nil))))))) (sk_ret gk_bl) sk_next)
    (sk_ret (gk_call (ak_cons (gk_call (ak_cons (gk_op od_ix gk_var gk_int) ak_nil)) (ak_cons (gk_call (ak_cons (gk_op od_ix gk_var gk_int) ak_nil)) ak_nil)))))) : SOk K _ b_is_share)
theorem sc_is_weight : FnScope nm_is_weight pm_is_weight (defScope s_is_weight) := ⟨rfl, rfl, rfl, by decide +kernel, rfl, by decide +kernel, by decide +kernel⟩
theorem bi_is_weight (T : Txt K mg) : Binds K T.is_weight.fd pm_is_weight [] := T.is_weight.F.binds fun _ _ _ _ _ _ us hl => by obtain ⟨_, _, _, rfl⟩ := len3 hl; rfl
theorem ok_is_weight (T : Txt K mg) : FnOk P w K mg base CX0 5 T.is_weight.f T.is_weight.fd pm_is_weight (spF K r_is_weight) := by
  have nd := sc_is_weight.nd
  refine data_F T.is_weight.F sc_is_weight fun cdv A outer s H E hr => ?_
  refine ⟨_, (pss_cons (ps_if (PW.pt (pw_or (pt_not (kpt_tru (K := K) rfl (pe_callB (kcr_isi (K := K) rfl) (by rfl) T.isinstance (by decide +kernel) (pa_cons (pv 0) (pa_cons (pe_bltn (v := .ty "tuple") (u := .type "tuple") (by rfl) T.tuple (by decide +kernel) rfl) pa_nil))) (by intro _; rfl))) (pw_or1 (pt_cmpR (kop_ne (K := K) rfl hr.units) (pe_callB (kcr_len (K := K) rfl) (by rfl) T.len (by decide +kernel) (pa_cons (pv 0) pa_nil)) pe_int (nomark _))))) (pss_one (ps_ret pe_bl)) pss_nil)
    (pss_one (ps_ret (pe_and (pe_call (ok_is_between T) (hr.mono (by decide)) rfl T.is_between.m T.is_between.F.kp (bi_is_between T) .nil pass0 (pa_cons (pe_ix (kix (K := K) rfl) (pv 0) pe_int (fun _ _ => rfl)) (pa_cons (pv 1) (pa_cons (pv 2) pa_nil)))) (pe_one (pe_call (ok_is_value T) (hr.mono (by decide)) rfl T.is_value.m T.is_value.F.kp (bi_is_value T) .nil pass0 (pa_cons (pe_ix (kix (K := K) rfl) (pv 0) pe_int (fun _ _ => rfl)) pa_nil))))))), ?_⟩
  exact ((sk_seq (sk_if (tk_or (tk_not (tk_truK (gk_cb cd_isi (ak_cons gk_var (ak_cons (gk_c fun _ => .ty _) ak_nil))))) (tk_test (gk_op od_ne (gk_cb cd_len (ak_cons gk_var ak_nil)) gk_int))) (sk_ret gk_bl) sk_next)
    (sk_ret (gk_vand (gk_call (ak_cons (gk_op od_ix gk_var gk_int) (ak_cons gk_var (ak_cons gk_var ak_nil)))) (gk_call (ak_cons (gk_op od_ix gk_var gk_int) ak_nil))))) : SOk K _ b_is_weight)
theorem sc_ascending : FnScope nm_ascending pm_ascending (defScope s_ascending) := ⟨rfl, rfl, rfl, by decide +kernel, rfl, by decide +kernel, by decide +kernel⟩
theorem bi_ascending (T : Txt K mg) : Binds K T.ascending.fd pm_ascending [] := T.ascending.F.binds fun _ _ _ _ _ _ us hl => by obtain ⟨_, rfl⟩ := len1 hl; rfl
theorem ok_ascending (T : Txt K mg) : FnOk P w K mg base CX0 2 T.ascending.f T.ascending.fd pm_ascending (spF K r_ascending) := by
  have nd := sc_ascending.nd
  refine data_F T.ascending.F sc_ascending fun cdv A outer s H E hr => ?_
  refine ⟨_, (pss_cons (ps_set (i := 1) nd rfl (Or.inr rfl) pe_int)
    (pss_cons (ps_for PassesOwn.never rfl (kpi_seq (K := K) rfl (pv 0)) (kpg_tup (K := K) (n := 2) rfl rfl (pgs_cons (pg_name (i := 2) nd rfl (Or.inl rfl)) (pgs_cons (pg_name (i := 3) nd rfl (Or.inl rfl)) pgs_nil))) (pss_one (ps_set (i := 1) nd rfl (Or.inr rfl) (pe_op op_fdivA (pe_op op_mulA (pv 1) (pv 3)) (pe_call (ok_divisor T) (hr.mono (by decide)) rfl T.divisor.m T.divisor.F.kp (bi_divisor T) .nil pass0 (pa_cons (pv 1) (pa_cons (pv 3) pa_nil)))))))
    (pss_cons (ps_set (i := 4) nd rfl (Or.inr rfl) (pe_callB (kcr_sorted (K := K) rfl (room_u2 hr)) (by rfl) T.sorted (by decide +kernel) (pa_cons (pe_lc (own := [("one", 5)]) rfl nd (kpi_seq (K := K) rfl (pv 0)) (blkOk_by (N := nm_ascending) (sc := defScope s_ascending) (by decide +kernel)) (fun _ _ _ _ _ => (pg_name (i := 5) nd rfl (Or.inl rfl))) (fun _ _ _ _ _ => pts_nil) (fun _ _ _ _ _ => (pe_tup (pa_cons (pe_op op_mulA (pe_ix (kix (K := K) rfl) (pv 5) pe_int (fun _ _ => rfl)) (pe_op op_fdivA (pv 1) (pe_ix (kix (K := K) rfl) (pv 5) pe_int (fun _ _ => rfl)))) (pa_cons (pv 5) pa_nil))))) pa_nil)))
    (pss_one (ps_ret (pe_lc (own := [("at", 6), ("place", 7), ("one", 5)]) rfl nd (kpi_enumA (K := K) rfl rfl T.enumerate (pa_cons (pv 4) pa_nil)) (blkOk_by (N := nm_ascending) (sc := defScope s_ascending) (by decide +kernel)) (fun _ _ _ _ _ => (kpg_tup (K := K) (n := 2) rfl rfl (pgs_cons (pg_name (i := 6) nd rfl (Or.inl rfl)) (pgs_cons (kpg_tup (K := K) (n := 2) rfl rfl (pgs_cons (pg_name (i := 7) nd rfl (Or.inl rfl)) (pgs_cons (pg_name (i := 5) nd rfl (Or.inl rfl)) pgs_nil))) pgs_nil)))) (fun _ _ _ _ _ => (pts_one (PW.pt (pw_or (pt_cmpR (kop_eq (K := K) rfl hr.units) (pv 6) pe_int (nomark _)) (pw_or1 (pt_cmpR (kop_ne (K := K) rfl hr.units) (pe_ix (kix (K := K) rfl) (pe_ix (kix (K := K) rfl) (pv 4) (pe_op op_subA (pv 6) pe_int) (fun _ _ => rfl)) pe_int (fun _ _ => rfl)) (pv 5) (nomark _))))))) (fun _ _ _ _ _ => (pv 5)))))))), ?_⟩
  exact ((sk_seq (sk_set gk_int)
    (sk_seq (sk_for (ik_seq gk_var) (gt_tup (gts_cons gt_name (gts_cons gt_name gts_nil))) ((sk_set (gk_op od_fdiv (gk_op od_mul gk_var gk_var) (gk_call (ak_cons gk_var (ak_cons gk_var ak_nil))))) : SOk K _ b_ascending_1))
    (sk_seq (sk_set (gk_cb cd_sorted (ak_cons (gk_lc (ik_seq gk_var) gt_name tk_yes (gk_tup (ak_cons (gk_op od_mul (gk_op od_ix gk_var gk_int) (gk_op od_fdiv gk_var (gk_op od_ix gk_var gk_int))) (ak_cons gk_var ak_nil))) (by decide)) ak_nil)))
    (sk_ret (gk_lc (ik_enumA (ak_cons gk_var ak_nil)) (gt_tup (gts_cons gt_name (gts_cons (gt_tup (gts_cons gt_name (gts_cons gt_name gts_nil))) gts_nil))) (tk_or (tk_test (gk_op od_eq gk_var gk_int)) (tk_test (gk_op od_ne (gk_op od_ix (gk_op od_ix gk_var (gk_op od_sub gk_var gk_int)) gk_int) gk_var))) gk_var (by decide)))))) : SOk K _ b_ascending)
theorem sc_lowest : FnScope nm_lowest pm_lowest (defScope s_lowest) := ⟨rfl, rfl, rfl, by decide +kernel, rfl, by decide +kernel, by decide +kernel⟩
theorem bi_lowest (T : Txt K mg) : Binds K T.lowest.fd pm_lowest [] := T.lowest.F.binds fun _ _ _ _ _ _ us hl => by obtain ⟨_, _, rfl⟩ := len2 hl; rfl
theorem ok_lowest (T : Txt K mg) : FnOk P w K mg base CX0 2 T.lowest.f T.lowest.fd pm_lowest (spF K r_lowest) := by
  have nd := sc_lowest.nd
  refine data_F T.lowest.F sc_lowest fun cdv A outer s H E hr => ?_
  refine ⟨_, (pss_cons (ps_set (i := 2) nd rfl (Or.inl rfl) (pe_call (ok_divisor T) (hr.mono (by decide)) rfl T.divisor.m T.divisor.F.kp (bi_divisor T) .nil pass0 (pa_cons (pv 0) (pa_cons (pv 1) pa_nil))))
    (pss_cons (ps_set (i := 2) nd rfl (Or.inl rfl) (pe_ifExp (pt_cmpR op_lt (pv 1) pe_int (nomark _)) (pe_un un_neg (pv 2)) (pv 2)))
    (pss_one (ps_ret (pe_tup (pa_cons (pe_op op_fdivA (pv 0) (pv 2)) (pa_cons (pe_op op_fdivA (pv 1) (pv 2)) pa_nil))))))), ?_⟩
  exact ((sk_seq (sk_set (gk_call (ak_cons gk_var (ak_cons gk_var ak_nil))))
    (sk_seq (sk_set (gk_if (tk_test (gk_op od_lt gk_var gk_int)) (gk_un ud_neg gk_var) gk_var))
    (sk_ret (gk_tup (ak_cons (gk_op od_fdiv gk_var gk_var) (ak_cons (gk_op od_fdiv gk_var gk_var) ak_nil)))))) : SOk K _ b_lowest)
theorem sc_added : FnScope nm_added pm_added (defScope s_added) := ⟨rfl, rfl, rfl, by decide +kernel, rfl, by decide +kernel, by decide +kernel⟩
theorem bi_added (T : Txt K mg) : Binds K T.added.fd pm_added [] := T.added.F.binds fun _ _ _ _ _ _ us hl => by obtain ⟨_, _, rfl⟩ := len2 hl; rfl
theorem ok_added (T : Txt K mg) : FnOk P w K mg base CX0 3 T.added.f T.added.fd pm_added (spF K r_added) := by
  have nd := sc_added.nd
  refine data_F T.added.F sc_added fun cdv A outer s H E hr => ?_
  refine ⟨_, (pss_one (ps_ret (pe_call (ok_lowest T) (hr.mono (by decide)) rfl T.lowest.m T.lowest.F.kp (bi_lowest T) .nil pass0 (pa_cons (pe_op (kop_addB (K := K) rfl) (pe_op op_mulA (pe_ix (kix (K := K) rfl) (pv 0) pe_int (fun _ _ => rfl)) (pe_ix (kix (K := K) rfl) (pv 1) pe_int (fun _ _ => rfl))) (pe_op op_mulA (pe_ix (kix (K := K) rfl) (pv 1) pe_int (fun _ _ => rfl)) (pe_ix (kix (K := K) rfl) (pv 0) pe_int (fun _ _ => rfl)))) (pa_cons (pe_op op_mulA (pe_ix (kix (K := K) rfl) (pv 0) pe_int (fun _ _ => rfl)) (pe_ix (kix (K := K) rfl) (pv 1) pe_int (fun _ _ => rfl))) pa_nil))))), ?_⟩
  exact ((sk_ret (gk_call (ak_cons (gk_op od_addB (gk_op od_mul (gk_op od_ix gk_var gk_int) (gk_op od_ix gk_var gk_int)) (gk_op od_mul (gk_op od_ix gk_var gk_int) (gk_op od_ix gk_var gk_int))) (ak_cons (gk_op od_mul (gk_op od_ix gk_var gk_int) (gk_op od_ix gk_var gk_int)) ak_nil)))) : SOk K _ b_added)
theorem sc_summed : FnScope nm_summed pm_summed (defScope s_summed) := ⟨rfl, rfl, rfl, by decide +kernel, rfl, by decide +kernel, by decide +kernel⟩
theorem bi_summed (T : Txt K mg) : Binds K T.summed.fd pm_summed [] := T.summed.F.binds fun _ _ _ _ _ _ us hl => by obtain ⟨_, rfl⟩ := len1 hl; rfl
theorem ok_summed (T : Txt K mg) : FnOk P w K mg base CX0 4 T.summed.f T.summed.fd pm_summed (spF K r_summed) := by
  have nd := sc_summed.nd
  refine data_F T.summed.F sc_summed fun cdv A outer s H E hr => ?_
  refine ⟨_, (pss_cons (ps_set (i := 1) nd rfl (Or.inl rfl) (pe_glob rfl T.NOUGHT.m T.NOUGHT.r))
    (pss_cons (ps_for PassesOwn.never rfl (kpi_seq (K := K) rfl (pv 0)) (pg_name (i := 2) nd rfl (Or.inl rfl)) (pss_one (ps_set (i := 1) nd rfl (Or.inl rfl) (pe_call (ok_added T) (hr.mono (by decide)) rfl T.added.m T.added.F.kp (bi_added T) .nil pass0 (pa_cons (pv 1) (pa_cons (pv 2) pa_nil))))))
    (pss_one (ps_ret (pv 1))))), ?_⟩
  exact ((sk_seq (sk_set (gk_c T.NOUGHT.d))
    (sk_seq (sk_for (ik_seq gk_var) gt_name ((sk_set (gk_call (ak_cons gk_var (ak_cons gk_var ak_nil)))) : SOk K _ b_summed_1))
    (sk_ret gk_mv))) : SOk K _ b_summed)
theorem sc_least_shares : FnScope nm_least_shares pm_least_shares (defScope s_least_shares) := ⟨rfl, rfl, rfl, by decide +kernel, rfl, by decide +kernel, by decide +kernel⟩
theorem bi_least_shares (T : Txt K mg) : Binds K T.least_shares.fd pm_least_shares [] := T.least_shares.F.binds fun _ _ _ _ _ _ us hl => by obtain ⟨_, rfl⟩ := len1 hl; rfl
theorem ok_least_shares (T : Txt K mg) : FnOk P w K mg base CX0 5 T.least_shares.f T.least_shares.fd pm_least_shares (spF K r_least_shares) := by
  have nd := sc_least_shares.nd
  refine data_F T.least_shares.F sc_least_shares fun cdv A outer s H E hr => ?_
  refine ⟨_, (pss_cons (ps_setLc (i := 1) (own := [("start", 4), ("end", 5), ("share", 8)]) rfl nd rfl rfl (sw_true rfl rfl rfl (by decide +kernel)) (kpi_seq (K := K) rfl (pv 0)) (blkOk_by (N := nm_least_shares) (sc := defScope s_least_shares) (by decide +kernel)) (fun _ _ _ _ _ => (kpg_tup (K := K) (n := 3) rfl rfl (pgs_cons (pg_name (i := 4) nd rfl (Or.inl rfl)) (pgs_cons (pg_name (i := 5) nd rfl (Or.inl rfl)) (pgs_cons (pg_name (i := 8) nd rfl (Or.inl rfl)) pgs_nil))))) (fun _ _ _ _ _ => pts_nil) (fun _ _ _ _ _ => (pe_tup (pa_cons (pe_call (ok_value_of T) (hr.mono (by decide)) rfl T.value_of.m T.value_of.F.kp (bi_value_of T) .nil pass0 (pa_cons (pv 4) pa_nil)) (pa_cons (pe_call (ok_value_of T) (hr.mono (by decide)) rfl T.value_of.m T.value_of.F.kp (bi_value_of T) .nil pass0 (pa_cons (pv 5) pa_nil)) (pa_cons (pe_call (ok_value_of T) (hr.mono (by decide)) rfl T.value_of.m T.value_of.F.kp (bi_value_of T) .nil pass0 (pa_cons (pv 8) pa_nil)) pa_nil))))))
    (pss_cons (ps_set (i := 2) nd rfl (Or.inl rfl) (pe_call (ok_ascending T) (hr.mono (by decide)) rfl T.ascending.m T.ascending.F.kp (bi_ascending T) .nil pass0 (pa_cons (pe_lc2 (own := [("start", 4), ("end", 5), ("share", 8), ("one", 9)]) (vs1 := [9]) rfl nd (kpi_seq (K := K) rfl (pv 1)) (blkOk_by (N := nm_least_shares) (sc := defScope s_least_shares) (by decide +kernel)) (by decide) (fun _ _ _ _ _ => (kpg_tup (K := K) (n := 3) rfl rfl (pgs_cons (pg_name (i := 4) nd rfl (Or.inl rfl)) (pgs_cons (pg_name (i := 5) nd rfl (Or.inl rfl)) (pgs_cons (pg_name (i := 8) nd rfl (Or.inl rfl)) pgs_nil))))) (fun _ _ _ _ _ => pts_nil) (fun _ _ _ _ _ => (kpi_seq (K := K) rfl (pe_tup (pa_cons (pv 4) (pa_cons (pv 5) pa_nil))))) (fun _ _ _ _ _ => (pg_name (i := 9) nd rfl (Or.inl rfl))) (fun _ _ _ _ _ => pts_nil) (fun _ _ _ _ _ => (pv 9))) pa_nil)))
    (pss_cons (ps_set (i := 3) nd rfl (Or.inl rfl) (pe_lst pa_nil))
    (pss_cons (ps_for PassesOwn.never rfl (kpi_zipA (K := K) rfl rfl T.zip (pa_cons (pv 2) (pa_cons (pe_slice (ksl_B (K := K) rfl) (pv 2) (po_some pe_int) po_none) pa_nil))) (kpg_tup (K := K) (n := 2) rfl rfl (pgs_cons (pg_name (i := 4) nd rfl (Or.inr rfl)) (pgs_cons (pg_name (i := 5) nd rfl (Or.inr rfl)) pgs_nil))) (pss_cons (ps_setLc (i := 6) (own := [("first", 10), ("last", 11), ("share", 8)]) rfl nd rfl rfl (sw_true rfl rfl rfl (by decide +kernel)) (kpi_seq (K := K) rfl (pv 1)) (blkOk_by (N := nm_least_shares) (sc := defScope s_least_shares) (by decide +kernel)) (fun _ _ _ _ _ => (kpg_tup (K := K) (n := 3) rfl rfl (pgs_cons (pg_name (i := 10) nd rfl (Or.inl rfl)) (pgs_cons (pg_name (i := 11) nd rfl (Or.inl rfl)) (pgs_cons (pg_name (i := 8) nd rfl (Or.inl rfl)) pgs_nil))))) (fun _ _ _ _ _ => (pts_one (PW.pt (pw_and (pt_not (kpt_tru (K := K) rfl (pe_call (ok_is_less T) (hr.mono (by decide)) rfl T.is_less.m T.is_less.F.kp (bi_is_less T) .nil pass0 (pa_cons (pv 4) (pa_cons (pv 10) pa_nil))) (by intro _; rfl))) (pw_and1 (pt_not (kpt_tru (K := K) rfl (pe_call (ok_is_less T) (hr.mono (by decide)) rfl T.is_less.m T.is_less.F.kp (bi_is_less T) .nil pass0 (pa_cons (pv 11) (pa_cons (pv 5) pa_nil))) (by intro _; rfl)))))))) (fun _ _ _ _ _ => (pv 8)))
    (pss_cons (ps_set (i := 7) nd rfl (Or.inl rfl) (pe_call (ok_summed T) (hr.mono (by decide)) rfl T.summed.m T.summed.F.kp (bi_summed T) .nil pass0 (pa_cons (pv 6) pa_nil)))
    (pss_one (ps_if (PW.pt (pw_and (pt_cmpR op_gt (pe_callB (kcr_len (K := K) rfl) (by rfl) T.len (by decide +kernel) (pa_cons (pv 3) pa_nil)) pe_int (nomark _)) (pw_and1 (pt_cmpR (kop_eq (K := K) rfl hr.units) (pe_ix (kix (K := K) rfl) (pe_ix (kix (K := K) rfl) (pv 3) (pe_un un_neg pe_int) (fun _ _ => rfl)) pe_int (fun _ _ => rfl)) (pv 7) (nomark _))))) (pss_one (ps_set (i := 3) nd rfl (Or.inl rfl) (pe_lst (kpa_star (K := K) rfl (pe_slice (ksl_B (K := K) rfl) (pv 3) po_none (po_some (pe_un un_neg pe_int))) (pa_cons (pe_tup (pa_cons (pe_ix (kix (K := K) rfl) (pe_ix (kix (K := K) rfl) (pv 3) (pe_un un_neg pe_int) (fun _ _ => rfl)) pe_int (fun _ _ => rfl)) (pa_cons (pv 5) (pa_cons (pv 7) pa_nil)))) pa_nil))))) (pss_one (ps_set (i := 3) nd rfl (Or.inl rfl) (pe_lst (kpa_star (K := K) rfl (pv 3) (pa_cons (pe_tup (pa_cons (pv 4) (pa_cons (pv 5) (pa_cons (pv 7) pa_nil)))) pa_nil))))))))))
    (pss_one (ps_ret (pe_callTy (kcr_tuple (K := K) rfl) (by rfl) T.tuple (by decide +kernel) (pa_cons (pe_lc (own := [("part", 12)]) rfl nd (kpi_seq (K := K) rfl (pv 3)) (blkOk_by (N := nm_least_shares) (sc := defScope s_least_shares) (by decide +kernel)) (fun _ _ _ _ _ => (pg_name (i := 12) nd rfl (Or.inl rfl))) (fun _ _ _ _ _ => (pts_one (pt_cmpR (kop_ne (K := K) rfl hr.units) (pe_ix (kix (K := K) rfl) (pv 12) pe_int (fun _ _ => rfl)) (pe_glob rfl T.NOUGHT.m T.NOUGHT.r) (nomark _)))) (fun _ _ _ _ _ => (pv 12))) pa_nil)))))))), ?_⟩
  exact ((sk_seq (sk_set (gk_lc (ik_seq gk_var) (gt_tup (gts_cons gt_name (gts_cons gt_name (gts_cons gt_name gts_nil)))) tk_yes (gk_tup (ak_cons (gk_call (ak_cons gk_var ak_nil)) (ak_cons (gk_call (ak_cons gk_var ak_nil)) (ak_cons (gk_call (ak_cons gk_var ak_nil)) ak_nil)))) (by decide)))
    (sk_seq (sk_set (gk_call (ak_cons (gk_lc2 (ik_seq gk_var) (gt_tup (gts_cons gt_name (gts_cons gt_name (gts_cons gt_name gts_nil)))) tk_yes (ik_seq (gk_tup (ak_cons gk_var (ak_cons gk_var ak_nil)))) gt_name tk_yes gk_var (by decide) (by decide) (by decide)) ak_nil)))
    (sk_seq (sk_set (gk_lst ak_nil))
    (sk_seq (sk_for (ik_zipA (ak_cons gk_var (ak_cons (gk_sl sd_B gk_var (pk_some gk_int) pk_none) ak_nil))) (gt_tup (gts_cons gt_name (gts_cons gt_name gts_nil))) ((sk_seq (sk_set (gk_lc (ik_seq gk_var) (gt_tup (gts_cons gt_name (gts_cons gt_name (gts_cons gt_name gts_nil)))) (tk_and (tk_not (tk_truK (gk_call (ak_cons gk_var (ak_cons gk_var ak_nil))))) (tk_not (tk_truK (gk_call (ak_cons gk_var (ak_cons gk_var ak_nil)))))) gk_var (by decide)))
    (sk_seq (sk_set (gk_call (ak_cons gk_var ak_nil)))
    (sk_if (tk_and (tk_test (gk_op od_gt (gk_cb cd_len (ak_cons gk_var ak_nil)) gk_int)) (tk_test (gk_op od_eq (gk_op od_ix (gk_op od_ix gk_var (gk_un ud_neg gk_int)) gk_int) gk_var))) (sk_set (gk_lst (ak_star (gk_sl sd_B gk_var pk_none (pk_some (gk_un ud_neg gk_int))) (ak_cons (gk_tup (ak_cons (gk_op od_ix (gk_op od_ix gk_var (gk_un ud_neg gk_int)) gk_int) (ak_cons gk_var (ak_cons gk_var ak_nil)))) ak_nil)))) (sk_set (gk_lst (ak_star gk_var (ak_cons (gk_tup (ak_cons gk_var (ak_cons gk_var (ak_cons gk_var ak_nil)))) ak_nil))))))) : SOk K _ b_least_shares_1))
    (sk_ret (gk_cb cd_tuple (ak_cons (gk_lc (ik_seq gk_var) gt_name (tk_test (gk_op od_ne (gk_op od_ix gk_var gk_int) (gk_c T.NOUGHT.d))) gk_var (by decide)) ak_nil))))))) : SOk K _ b_least_shares)
theorem sc_least_weights : FnScope nm_least_weights pm_least_weights (defScope s_least_weights) := ⟨rfl, rfl, rfl, by decide +kernel, rfl, by decide +kernel, by decide +kernel⟩
theorem bi_least_weights (T : Txt K mg) : Binds K T.least_weights.fd pm_least_weights [] := T.least_weights.F.binds fun _ _ _ _ _ _ us hl => by obtain ⟨_, rfl⟩ := len1 hl; rfl
theorem ok_least_weights (T : Txt K mg) : FnOk P w K mg base CX0 5 T.least_weights.f T.least_weights.fd pm_least_weights (spF K r_least_weights) := by
  have nd := sc_least_weights.nd
  refine data_F T.least_weights.F sc_least_weights fun cdv A outer s H E hr => ?_
  refine ⟨_, (pss_cons (ps_setLc (i := 1) (own := [("point", 3), ("weight", 4)]) rfl nd rfl rfl (sw_true rfl rfl rfl (by decide +kernel)) (kpi_seq (K := K) rfl (pv 0)) (blkOk_by (N := nm_least_weights) (sc := defScope s_least_weights) (by decide +kernel)) (fun _ _ _ _ _ => (kpg_tup (K := K) (n := 2) rfl rfl (pgs_cons (pg_name (i := 3) nd rfl (Or.inl rfl)) (pgs_cons (pg_name (i := 4) nd rfl (Or.inl rfl)) pgs_nil)))) (fun _ _ _ _ _ => pts_nil) (fun _ _ _ _ _ => (pe_tup (pa_cons (pe_call (ok_value_of T) (hr.mono (by decide)) rfl T.value_of.m T.value_of.F.kp (bi_value_of T) .nil pass0 (pa_cons (pv 3) pa_nil)) (pa_cons (pe_call (ok_value_of T) (hr.mono (by decide)) rfl T.value_of.m T.value_of.F.kp (bi_value_of T) .nil pass0 (pa_cons (pv 4) pa_nil)) pa_nil)))))
    (pss_cons (ps_set (i := 2) nd rfl (Or.inl rfl) (pe_lst pa_nil))
    (pss_cons (ps_for PassesOwn.never rfl (kpi_seq (K := K) rfl (pe_call (ok_ascending T) (hr.mono (by decide)) rfl T.ascending.m T.ascending.F.kp (bi_ascending T) .nil pass0 (pa_cons (pe_lc (own := [("point", 3), ("weight", 4)]) rfl nd (kpi_seq (K := K) rfl (pv 1)) (blkOk_by (N := nm_least_weights) (sc := defScope s_least_weights) (by decide +kernel)) (fun _ _ _ _ _ => (kpg_tup (K := K) (n := 2) rfl rfl (pgs_cons (pg_name (i := 3) nd rfl (Or.inl rfl)) (pgs_cons (pg_name (i := 4) nd rfl (Or.inl rfl)) pgs_nil)))) (fun _ _ _ _ _ => pts_nil) (fun _ _ _ _ _ => (pv 3))) pa_nil))) (pg_name (i := 3) nd rfl (Or.inr rfl)) (pss_one (ps_expr (kpe_app (K := K) rfl (pv 2) (pe_tup (pa_cons (pv 3) (pa_cons (pe_call (ok_summed T) (hr.mono (by decide)) rfl T.summed.m T.summed.F.kp (bi_summed T) .nil pass0 (pa_cons (pe_lc (own := [("place", 5), ("weight", 4)]) rfl nd (kpi_seq (K := K) rfl (pv 1)) (blkOk_by (N := nm_least_weights) (sc := defScope s_least_weights) (by decide +kernel)) (fun _ _ _ _ _ => (kpg_tup (K := K) (n := 2) rfl rfl (pgs_cons (pg_name (i := 5) nd rfl (Or.inl rfl)) (pgs_cons (pg_name (i := 4) nd rfl (Or.inl rfl)) pgs_nil)))) (fun _ _ _ _ _ => (pts_one (pt_cmpR (kop_eq (K := K) rfl hr.units) (pv 5) (pv 3) (nomark _)))) (fun _ _ _ _ _ => (pv 4))) pa_nil)) pa_nil)))))))
    (pss_one (ps_ret (pe_callTy (kcr_tuple (K := K) rfl) (by rfl) T.tuple (by decide +kernel) (pa_cons (pe_lc (own := [("pair", 6)]) rfl nd (kpi_seq (K := K) rfl (pv 2)) (blkOk_by (N := nm_least_weights) (sc := defScope s_least_weights) (by decide +kernel)) (fun _ _ _ _ _ => (pg_name (i := 6) nd rfl (Or.inl rfl))) (fun _ _ _ _ _ => (pts_one (pt_cmpR (kop_ne (K := K) rfl hr.units) (pe_ix (kix (K := K) rfl) (pv 6) pe_int (fun _ _ => rfl)) (pe_glob rfl T.NOUGHT.m T.NOUGHT.r) (nomark _)))) (fun _ _ _ _ _ => (pv 6))) pa_nil))))))), ?_⟩
  exact ((sk_seq (sk_set (gk_lc (ik_seq gk_var) (gt_tup (gts_cons gt_name (gts_cons gt_name gts_nil))) tk_yes (gk_tup (ak_cons (gk_call (ak_cons gk_var ak_nil)) (ak_cons (gk_call (ak_cons gk_var ak_nil)) ak_nil))) (by decide)))
    (sk_seq (sk_set (gk_lst ak_nil))
    (sk_seq (sk_for (ik_seq (gk_call (ak_cons (gk_lc (ik_seq gk_var) (gt_tup (gts_cons gt_name (gts_cons gt_name gts_nil))) tk_yes gk_var (by decide)) ak_nil))) gt_name ((sk_app (gk_tup (ak_cons gk_var (ak_cons (gk_call (ak_cons (gk_lc (ik_seq gk_var) (gt_tup (gts_cons gt_name (gts_cons gt_name gts_nil))) (tk_test (gk_op od_eq gk_var gk_var)) gk_var (by decide)) ak_nil)) ak_nil)))) : SOk K _ b_least_weights_1))
    (sk_ret (gk_cb cd_tuple (ak_cons (gk_lc (ik_seq gk_var) gt_name (tk_test (gk_op od_ne (gk_op od_ix gk_var gk_int) (gk_c T.NOUGHT.d))) gk_var (by decide)) ak_nil)))))) : SOk K _ b_least_weights)
theorem sc_need_stretch : FnScope nm_need_stretch pm_need_stretch (defScope s_need_stretch) := ⟨rfl, rfl, rfl, by decide +kernel, rfl, by decide +kernel, by decide +kernel⟩
theorem bi_need_stretch (T : Txt K mg) : Binds K T.need_stretch.fd pm_need_stretch [] := T.need_stretch.F.binds fun _ _ _ _ _ _ us hl => by obtain ⟨_, _, rfl⟩ := len2 hl; rfl
theorem ok_need_stretch (T : Txt K mg) : FnOk P w K mg base CX0 4 T.need_stretch.f T.need_stretch.fd pm_need_stretch (spF K r_need_stretch) := by
  have nd := sc_need_stretch.nd
  refine data_F T.need_stretch.F sc_need_stretch fun cdv A outer s H E hr => ?_
  refine ⟨_, (pss_cons (ps_if (pt_not (kpt_tru (K := K) rfl (pe_call (ok_is_value T) (hr.mono (by decide)) rfl T.is_value.m T.is_value.F.kp (bi_is_value T) .nil pass0 (pa_cons (pv 0) pa_nil)) (by intro _; rfl))) (pss_one ps_never) pss_nil)
    (pss_cons (ps_if (PW.pt (pw_or (pt_not (kpt_tru (K := K) rfl (pe_call (ok_is_value T) (hr.mono (by decide)) rfl T.is_value.m T.is_value.F.kp (bi_is_value T) .nil pass0 (pa_cons (pv 1) pa_nil)) (by intro _; rfl))) (pw_or1 (pt_not (kpt_tru (K := K) rfl (pe_call (ok_is_less T) (hr.mono (by decide)) rfl T.is_less.m T.is_less.F.kp (bi_is_less T) .nil pass0 (pa_cons (pe_call (ok_value_of T) (hr.mono (by decide)) rfl T.value_of.m T.value_of.F.kp (bi_value_of T) .nil pass0 (pa_cons (pv 0) pa_nil)) (pa_cons (pe_call (ok_value_of T) (hr.mono (by decide)) rfl T.value_of.m T.value_of.F.kp (bi_value_of T) .nil pass0 (pa_cons (pv 1) pa_nil)) pa_nil))) (by intro _; rfl)))))) (pss_one ps_never) pss_nil)
    (pss_one (ps_ret (pe_tup (pa_cons (pe_call (ok_value_of T) (hr.mono (by decide)) rfl T.value_of.m T.value_of.F.kp (bi_value_of T) .nil pass0 (pa_cons (pv 0) pa_nil)) (pa_cons (pe_call (ok_value_of T) (hr.mono (by decide)) rfl T.value_of.m T.value_of.F.kp (bi_value_of T) .nil pass0 (pa_cons (pv 1) pa_nil)) pa_nil))))))), ?_⟩
  exact ((sk_seq (sk_if (tk_not (tk_truK (gk_call (ak_cons gk_var ak_nil)))) sk_never sk_next)
    (sk_seq (sk_if (tk_or (tk_not (tk_truK (gk_call (ak_cons gk_var ak_nil)))) (tk_not (tk_truK (gk_call (ak_cons (gk_call (ak_cons gk_var ak_nil)) (ak_cons (gk_call (ak_cons gk_var ak_nil)) ak_nil)))))) sk_never sk_next)
    (sk_ret (gk_tup (ak_cons (gk_call (ak_cons gk_var ak_nil)) (ak_cons (gk_call (ak_cons gk_var ak_nil)) ak_nil)))))) : SOk K _ b_need_stretch)
theorem sc_Rule_init : FnScope nm_Rule_init pm_Rule_init (defScope s_Rule_init) := ⟨rfl, rfl, rfl, by decide +kernel, rfl, by decide +kernel, by decide +kernel⟩
theorem bi_Rule_init_3 (T : Txt K mg) : ∃ ds, Vals (T.Rule_init.dvs.drop 0) ds ∧ Binds K T.Rule_init.fd pm_Rule_init ds := by
  have hl : T.Rule_init.dvs.length = 2 := (T.Rule_init.d fun _ => none).len
  refine T.Rule_init.F.binds1 3 0 (fun z => by rw [z] at hl; cases hl) (by rw [hl]; rfl) fun _ _ _ _ _ _ _ us its h1 h2 => ?_
  rw [hl] at h2
  match us, h1, its, h2 with | [_, _, _], _, [_, _], _ => exact ⟨_, rfl, rfl⟩
theorem bi_Rule_init_4 (T : Txt K mg) : ∃ ds, Vals (T.Rule_init.dvs.drop 1) ds ∧ Binds K T.Rule_init.fd pm_Rule_init ds := by
  have hl : T.Rule_init.dvs.length = 2 := (T.Rule_init.d fun _ => none).len
  refine T.Rule_init.F.binds1 4 1 (fun z => by rw [z] at hl; cases hl) (by rw [hl]; rfl) fun _ _ _ _ _ _ _ us its h1 h2 => ?_
  rw [hl] at h2
  match us, h1, its, h2 with | [_, _, _, _], _, [_, _], _ => exact ⟨_, rfl, rfl⟩
theorem bi_Rule_init_5 (T : Txt K mg) : ∃ ds, Vals (T.Rule_init.dvs.drop 2) ds ∧ Binds K T.Rule_init.fd pm_Rule_init ds := by
  have hl : T.Rule_init.dvs.length = 2 := (T.Rule_init.d fun _ => none).len
  refine T.Rule_init.F.binds1 5 2 (fun z => by rw [z] at hl; cases hl) (by rw [hl]; rfl) fun _ _ _ _ _ _ _ us its h1 h2 => ?_
  rw [hl] at h2
  match us, h1, its, h2 with | [_, _, _, _, _], _, [_, _], _ => exact ⟨_, rfl, rfl⟩
theorem kb_Rule_init_1 (T : Txt K mg) : ∃ its : List Value, KBn K T.Rule_init.fd pm_Rule_init 1 ["weights", "high", "low"] (fun us ws => pick [0, 3, 2, 1, 5] (us ++ (ws ++ its))) (fun vs zs => pick [0, 3, 2, 1, 5] (vs ++ (zs ++ T.Rule_init.dvs))) := by
  have hl : T.Rule_init.dvs.length = 2 := (T.Rule_init.d fun _ => none).len
  refine kb_D T.Rule_init.F 1 _ _ (fun z => by rw [z] at hl; cases hl) fun _ _ _ _ _ _ _ us its ws h1 h2 h3 => ?_
  rw [hl] at h2
  obtain ⟨_, rfl⟩ := ln1 h1
  obtain ⟨_, _, rfl⟩ := ln2 h2
  obtain ⟨_, _, _, rfl⟩ := ln3 h3
  exact ⟨_, rfl, rfl⟩
theorem kb_Rule_init_2 (T : Txt K mg) : ∃ its : List Value, KBn K T.Rule_init.fd pm_Rule_init 1 ["shares", "weights", "high", "low"] (fun us ws => pick [0, 4, 3, 2, 1] (us ++ (ws ++ its))) (fun vs zs => pick [0, 4, 3, 2, 1] (vs ++ (zs ++ T.Rule_init.dvs))) := by
  have hl : T.Rule_init.dvs.length = 2 := (T.Rule_init.d fun _ => none).len
  refine kb_D T.Rule_init.F 1 _ _ (fun z => by rw [z] at hl; cases hl) fun _ _ _ _ _ _ _ us its ws h1 h2 h3 => ?_
  rw [hl] at h2
  obtain ⟨_, rfl⟩ := ln1 h1
  obtain ⟨_, _, rfl⟩ := ln2 h2
  obtain ⟨_, _, _, _, rfl⟩ := ln4 h3
  exact ⟨_, rfl, rfl⟩
theorem ok_Rule_init (T : Txt K mg) : FnOk P w K mg base CX0 6 T.Rule_init.f T.Rule_init.fd pm_Rule_init (spB K r_Rule_init) := by
  have nd := sc_Rule_init.nd
  refine data_BD T.Rule_init.F sc_Rule_init fun cdv A outer s H E hr => ?_
  refine ⟨_, (pss_cons (ps_asg (pe_call (ok_need_stretch T) (hr.mono (by decide)) rfl T.need_stretch.m T.need_stretch.F.kp (bi_need_stretch T) .nil pass0 (pa_cons (pv 1) (pa_cons (pv 2) pa_nil))) (kpg_tup (K := K) (n := 2) rfl rfl (pgs_cons (kpg_fld (K := K) rfl (pv 0)) (pgs_cons (kpg_fld (K := K) rfl (pv 0)) pgs_nil))))
    (pss_cons (ps_if (PW.pt (pw_or (pt_not (kpt_tru (K := K) rfl (pe_call (ok_is_sequence T) (hr.mono (by decide)) rfl T.is_sequence.m T.is_sequence.F.kp (bi_is_sequence T) .nil pass0 (pa_cons (pv 3) pa_nil)) (by intro _; rfl))) (pw_or1 (pt_not (kpt_tru (K := K) rfl (pe_callB (kcr_all (K := K) rfl rfl) (by rfl) T.all (by decide +kernel) (pa_cons (pe_lc (own := [("one", 5)]) rfl nd (kpi_seq (K := K) rfl (pv 3)) (blkOk_by (N := nm_Rule_init) (sc := defScope s_Rule_init) (by decide +kernel)) (fun _ _ _ _ _ => (pg_name (i := 5) nd rfl (Or.inl rfl))) (fun _ _ _ _ _ => pts_nil) (fun _ _ _ _ _ => (pe_call (ok_is_weight T) (hr.mono (by decide)) rfl T.is_weight.m T.is_weight.F.kp (bi_is_weight T) .nil pass0 (pa_cons (pv 5) (pa_cons (kpe_fld (K := K) rfl (pv 0) rfl) (pa_cons (kpe_fld (K := K) rfl (pv 0) rfl) pa_nil)))))) pa_nil)) (by intro _; rfl)))))) (pss_one ps_never) pss_nil)
    (pss_cons (ps_if (PW.pt (pw_or (pt_not (kpt_tru (K := K) rfl (pe_call (ok_is_sequence T) (hr.mono (by decide)) rfl T.is_sequence.m T.is_sequence.F.kp (bi_is_sequence T) .nil pass0 (pa_cons (pv 4) pa_nil)) (by intro _; rfl))) (pw_or1 (pt_not (kpt_tru (K := K) rfl (pe_callB (kcr_all (K := K) rfl rfl) (by rfl) T.all (by decide +kernel) (pa_cons (pe_lc (own := [("one", 5)]) rfl nd (kpi_seq (K := K) rfl (pv 4)) (blkOk_by (N := nm_Rule_init) (sc := defScope s_Rule_init) (by decide +kernel)) (fun _ _ _ _ _ => (pg_name (i := 5) nd rfl (Or.inl rfl))) (fun _ _ _ _ _ => pts_nil) (fun _ _ _ _ _ => (pe_call (ok_is_share T) (hr.mono (by decide)) rfl T.is_share.m T.is_share.F.kp (bi_is_share T) .nil pass0 (pa_cons (pv 5) (pa_cons (kpe_fld (K := K) rfl (pv 0) rfl) (pa_cons (kpe_fld (K := K) rfl (pv 0) rfl) pa_nil)))))) pa_nil)) (by intro _; rfl)))))) (pss_one ps_never) pss_nil)
    (pss_cons (kps_fld (K := K) rfl (pv 0) (pe_call (ok_least_weights T) (hr.mono (by decide)) rfl T.least_weights.m T.least_weights.F.kp (bi_least_weights T) .nil pass0 (pa_cons (pv 3) pa_nil)) rfl)
    (pss_one (kps_fld (K := K) rfl (pv 0) (pe_call (ok_least_shares T) (hr.mono (by decide)) rfl T.least_shares.m T.least_shares.F.kp (bi_least_shares T) .nil pass0 (pa_cons (pv 4) pa_nil)) rfl)))))), ?_⟩
  exact ((sk_seq (sk_asgF T.Rule rfl rfl (gk_call (ak_cons gk_var (ak_cons gk_var ak_nil))))
    (sk_seq (sk_if (tk_or (tk_not (tk_truK (gk_call (ak_cons gk_var ak_nil)))) (tk_not (tk_truK (gk_cb cd_all (ak_cons (gk_lc (ik_seq gk_var) gt_name tk_yes (gk_call (ak_cons gk_var (ak_cons (gk_fldv T.Rule rfl) (ak_cons (gk_fldv T.Rule rfl) ak_nil)))) (by decide)) ak_nil))))) sk_never sk_next)
    (sk_seq (sk_if (tk_or (tk_not (tk_truK (gk_call (ak_cons gk_var ak_nil)))) (tk_not (tk_truK (gk_cb cd_all (ak_cons (gk_lc (ik_seq gk_var) gt_name tk_yes (gk_call (ak_cons gk_var (ak_cons (gk_fldv T.Rule rfl) (ak_cons (gk_fldv T.Rule rfl) ak_nil)))) (by decide)) ak_nil))))) sk_never sk_next)
    (sk_seq (sk_setf T.Rule rfl (gk_call (ak_cons gk_var ak_nil)))
    (sk_setf T.Rule rfl (gk_call (ak_cons gk_var ak_nil))))))) : SOk K _ b_Rule_init)
theorem sc_Rule_neg : FnScope nm_Rule_neg pm_Rule_neg (defScope s_Rule_neg) := ⟨rfl, rfl, rfl, by decide +kernel, rfl, by decide +kernel, by decide +kernel⟩
theorem bi_Rule_neg (T : Txt K mg) : Binds K T.Rule_neg.fd pm_Rule_neg [] := T.Rule_neg.F.binds fun _ _ _ _ _ _ us hl => by obtain ⟨_, rfl⟩ := len1 hl; rfl
theorem ok_Rule_neg (T : Txt K mg) : FnOk P w K mg base CX0 8 T.Rule_neg.f T.Rule_neg.fd pm_Rule_neg (spF K r_Rule_neg) := by
  have nd := sc_Rule_neg.nd
  refine data_F T.Rule_neg.F sc_Rule_neg fun cdv A outer s H E hr => ?_
  refine ⟨_, (pss_cons (ps_setLc (i := 1) (own := [("point", 2), ("top", 3), ("low", 4)]) rfl nd rfl rfl (sw_true rfl rfl rfl (by decide +kernel)) (kpi_seq (K := K) rfl (kpe_fld (K := K) rfl (pv 0) rfl)) (blkOk_by (N := nm_Rule_neg) (sc := defScope s_Rule_neg) (by decide +kernel)) (fun _ _ _ _ _ => (kpg_tup (K := K) (n := 2) rfl rfl (pgs_cons (pg_name (i := 2) nd rfl (Or.inl rfl)) (pgs_cons (kpg_tup (K := K) (n := 2) rfl rfl (pgs_cons (pg_name (i := 3) nd rfl (Or.inl rfl)) (pgs_cons (pg_name (i := 4) nd rfl (Or.inl rfl)) pgs_nil))) pgs_nil)))) (fun _ _ _ _ _ => pts_nil) (fun _ _ _ _ _ => (pe_tup (pa_cons (pv 2) (pa_cons (pe_tup (pa_cons (pe_un un_neg (pv 3)) (pa_cons (pv 4) pa_nil))) pa_nil)))))
    (pss_one (ps_ret (pe_make T.mk_Rule (ok_Rule_init T) (hr.mono (by decide)) rfl T.Rule.mg (bi_Rule_init_5 T).choose_spec.2 (bi_Rule_init_5 T).choose_spec.1 pass0 (pa_cons (kpe_fld (K := K) rfl (pv 0) rfl) (pa_cons (kpe_fld (K := K) rfl (pv 0) rfl) (pa_cons (pv 1) (pa_cons (pe_lc (own := [("start", 5), ("end", 6), ("top", 3), ("low", 4)]) rfl nd (kpi_seq (K := K) rfl (kpe_fld (K := K) rfl (pv 0) rfl)) (blkOk_by (N := nm_Rule_neg) (sc := defScope s_Rule_neg) (by decide +kernel)) (fun _ _ _ _ _ => (kpg_tup (K := K) (n := 3) rfl rfl (pgs_cons (pg_name (i := 5) nd rfl (Or.inl rfl)) (pgs_cons (pg_name (i := 6) nd rfl (Or.inl rfl)) (pgs_cons (kpg_tup (K := K) (n := 2) rfl rfl (pgs_cons (pg_name (i := 3) nd rfl (Or.inl rfl)) (pgs_cons (pg_name (i := 4) nd rfl (Or.inl rfl)) pgs_nil))) pgs_nil))))) (fun _ _ _ _ _ => pts_nil) (fun _ _ _ _ _ => (pe_tup (pa_cons (pv 5) (pa_cons (pv 6) (pa_cons (pe_tup (pa_cons (pe_un un_neg (pv 3)) (pa_cons (pv 4) pa_nil))) pa_nil)))))) pa_nil)))))))), ?_⟩
  exact ((sk_seq (sk_set (gk_lc (ik_seq (gk_fld T.Rule rfl gk_var)) (gt_tup (gts_cons gt_name (gts_cons (gt_tup (gts_cons gt_name (gts_cons gt_name gts_nil))) gts_nil))) tk_yes (gk_tup (ak_cons gk_var (ak_cons (gk_tup (ak_cons (gk_un ud_neg gk_var) (ak_cons gk_var ak_nil))) ak_nil))) (by decide)))
    (sk_ret (gk_make T.Rule (fun H => (drs_drop (T.Rule_init.d H) 2)) (ak_cons (gk_fld T.Rule rfl gk_var) (ak_cons (gk_fld T.Rule rfl gk_var) (ak_cons gk_var (ak_cons (gk_lc (ik_seq (gk_fld T.Rule rfl gk_var)) (gt_tup (gts_cons gt_name (gts_cons gt_name (gts_cons (gt_tup (gts_cons gt_name (gts_cons gt_name gts_nil))) gts_nil)))) tk_yes (gk_tup (ak_cons gk_var (ak_cons gk_var (ak_cons (gk_tup (ak_cons (gk_un ud_neg gk_var) (ak_cons gk_var ak_nil))) ak_nil)))) (by decide)) ak_nil))))))) : SOk K _ b_Rule_neg)
theorem sc_Rule_add : FnScope nm_Rule_add pm_Rule_add (defScope s_Rule_add) := ⟨rfl, rfl, rfl, by decide +kernel, rfl, by decide +kernel, by decide +kernel⟩
theorem bi_Rule_add (T : Txt K mg) : Binds K T.Rule_add.fd pm_Rule_add [] := T.Rule_add.F.binds fun _ _ _ _ _ _ us hl => by obtain ⟨_, _, rfl⟩ := len2 hl; rfl
theorem ok_Rule_add (T : Txt K mg) : FnOk P w K mg base CX0 8 T.Rule_add.f T.Rule_add.fd pm_Rule_add (spF K r_Rule_add) := by
  have nd := sc_Rule_add.nd
  refine data_F T.Rule_add.F sc_Rule_add fun cdv A outer s H E hr => ?_
  refine ⟨_, (pss_cons (ps_if (pt_cmpR (kop_ne (K := K) rfl hr.units) (pe_tup (pa_cons (kpe_fld (K := K) rfl (pv 0) rfl) (pa_cons (kpe_fld (K := K) rfl (pv 0) rfl) pa_nil))) (pe_tup (pa_cons (kpe_fld (K := K) rfl (pv 1) rfl) (pa_cons (kpe_fld (K := K) rfl (pv 1) rfl) pa_nil))) (nomark _)) (pss_one ps_never) pss_nil)
    (pss_one (ps_ret (pe_make T.mk_Rule (ok_Rule_init T) (hr.mono (by decide)) rfl T.Rule.mg (bi_Rule_init_5 T).choose_spec.2 (bi_Rule_init_5 T).choose_spec.1 pass0 (pa_cons (kpe_fld (K := K) rfl (pv 0) rfl) (pa_cons (kpe_fld (K := K) rfl (pv 0) rfl) (pa_cons (pe_lst (kpa_star (K := K) rfl (kpe_fld (K := K) rfl (pv 0) rfl) (kpa_star (K := K) rfl (kpe_fld (K := K) rfl (pv 1) rfl) pa_nil))) (pa_cons (pe_lst (kpa_star (K := K) rfl (kpe_fld (K := K) rfl (pv 0) rfl) (kpa_star (K := K) rfl (kpe_fld (K := K) rfl (pv 1) rfl) pa_nil))) pa_nil)))))))), ?_⟩
  exact ((sk_seq (sk_if (tk_test (gk_op od_ne (gk_tup (ak_cons (gk_fld T.Rule rfl gk_var) (ak_cons (gk_fld T.Rule rfl gk_var) ak_nil))) (gk_tup (ak_cons (gk_fld T.Rule rfl gk_var) (ak_cons (gk_fld T.Rule rfl gk_var) ak_nil))))) sk_never sk_next)
    (sk_ret (gk_make T.Rule (fun H => (drs_drop (T.Rule_init.d H) 2)) (ak_cons (gk_fld T.Rule rfl gk_var) (ak_cons (gk_fld T.Rule rfl gk_var) (ak_cons (gk_lst (ak_star (gk_fld T.Rule rfl gk_var) (ak_star (gk_fld T.Rule rfl gk_var) ak_nil))) (ak_cons (gk_lst (ak_star (gk_fld T.Rule rfl gk_var) (ak_star (gk_fld T.Rule rfl gk_var) ak_nil))) ak_nil))))))) : SOk K _ b_Rule_add)
theorem sc_Rule_sub : FnScope nm_Rule_sub pm_Rule_sub (defScope s_Rule_sub) := ⟨rfl, rfl, rfl, by decide +kernel, rfl, by decide +kernel, by decide +kernel⟩
theorem bi_Rule_sub (T : Txt K mg) : Binds K T.Rule_sub.fd pm_Rule_sub [] := T.Rule_sub.F.binds fun _ _ _ _ _ _ us hl => by obtain ⟨_, _, rfl⟩ := len2 hl; rfl
theorem ok_Rule_sub (T : Txt K mg) : FnOk P w K mg base CX0 9 T.Rule_sub.f T.Rule_sub.fd pm_Rule_sub (spF K r_Rule_sub) := by
  have nd := sc_Rule_sub.nd
  refine data_F T.Rule_sub.F sc_Rule_sub fun cdv A outer s H E hr => ?_
  refine ⟨_, (pss_one (ps_ret (pe_op (OpR.or (kop_addB (K := K) rfl) (op_bin (E := E0) T.sf_Rule T.Rule_add.m.at_ T.Rule_add.m.fn (ok_Rule_add T) (hr.mono (by decide)) (bi_Rule_add T) pass0)) (pv 0) (pe_un (un_or un_neg (un_own (E := E0) T.Rule_neg.m.at_ T.Rule_neg.m.fn (ok_Rule_neg T) (hr.mono (by decide)) (bi_Rule_neg T) pass0)) (pv 1))))), ?_⟩
  exact ((sk_ret (gk_op (od_own T.Rule.at_ od_addB) gk_var (gk_un (ud_own T.Rule.at_ ud_neg) gk_var))) : SOk K _ b_Rule_sub)
theorem sc_trimmed : FnScope nm_trimmed pm_trimmed (defScope s_trimmed) := ⟨rfl, rfl, rfl, by decide +kernel, rfl, by decide +kernel, by decide +kernel⟩
theorem bi_trimmed (T : Txt K mg) : Binds K T.trimmed.fd pm_trimmed [] := T.trimmed.F.binds fun _ _ _ _ _ _ us hl => by obtain ⟨_, rfl⟩ := len1 hl; rfl
theorem ok_trimmed (T : Txt K mg) : FnOk P w K mg base CX0 1 T.trimmed.f T.trimmed.fd pm_trimmed (spF K r_trimmed) := by
  have nd := sc_trimmed.nd
  refine data_F T.trimmed.F sc_trimmed fun cdv A outer s H E hr => ?_
  refine ⟨_, (pss_cons (ps_set (i := 1) nd rfl (Or.inl rfl) (pe_callB (kcr_len (K := K) rfl) (by rfl) T.len (by decide +kernel) (pa_cons (pv 0) pa_nil)))
    (pss_cons (ps_while PassesOwn.never (PW.pt (pw_and (pt_cmpR op_gt (pv 1) pe_int (nomark _)) (pw_and1 (pt_cmpR (kop_eq (K := K) rfl hr.units) (pe_ix (kix (K := K) rfl) (pv 0) (pe_op op_subA (pv 1) pe_int) (fun _ _ => rfl)) pe_int (nomark _))))) (pss_one (ps_aug (i := 1) nd rfl (Or.inl rfl) pe_int ip_sub)))
    (pss_one (ps_ret (pe_callTy (kcr_tuple (K := K) rfl) (by rfl) T.tuple (by decide +kernel) (pa_cons (pe_slice (ksl_B (K := K) rfl) (pv 0) po_none (po_some (pv 1))) pa_nil)))))), ?_⟩
  exact ((sk_seq (sk_set (gk_cb cd_len (ak_cons gk_var ak_nil)))
    (sk_seq (sk_while (fun _ => 1000) (tk_and (tk_test (gk_op od_gt gk_var gk_int)) (tk_test (gk_op od_eq (gk_op od_ix gk_var (gk_op od_sub gk_var gk_int)) gk_int))) ((sk_aug od_ipsub gk_int) : SOk K _ b_trimmed_1))
    (sk_ret (gk_cb cd_tuple (ak_cons (gk_sl sd_B gk_var pk_none (pk_some gk_var)) ak_nil))))) : SOk K _ b_trimmed)
theorem sc_integers_of : FnScope nm_integers_of pm_integers_of (defScope s_integers_of) := ⟨rfl, rfl, rfl, by decide +kernel, rfl, by decide +kernel, by decide +kernel⟩
theorem bi_integers_of (T : Txt K mg) : Binds K T.integers_of.fd pm_integers_of [] := T.integers_of.F.binds fun _ _ _ _ _ _ us hl => by obtain ⟨_, rfl⟩ := len1 hl; rfl
theorem ok_integers_of (T : Txt K mg) : FnOk P w K mg base CX0 2 T.integers_of.f T.integers_of.fd pm_integers_of (spF K r_integers_of) := by
  have nd := sc_integers_of.nd
  refine data_F T.integers_of.F sc_integers_of fun cdv A outer s H E hr => ?_
  refine ⟨_, (pss_cons (ps_set (i := 1) nd rfl (Or.inr rfl) pe_int)
    (pss_cons (ps_for PassesOwn.never rfl (kpi_seq (K := K) rfl (pv 0)) (pg_name (i := 2) nd rfl (Or.inl rfl)) (pss_one (ps_set (i := 1) nd rfl (Or.inr rfl) (pe_op op_mulA (pv 1) (pe_ix (kix (K := K) rfl) (pv 2) pe_int (fun _ _ => rfl))))))
    (pss_one (ps_ret (pe_call (ok_trimmed T) (hr.mono (by decide)) rfl T.trimmed.m T.trimmed.F.kp (bi_trimmed T) .nil pass0 (pa_cons (pe_lc (own := [("top", 3), ("low", 4)]) rfl nd (kpi_seq (K := K) rfl (pv 0)) (blkOk_by (N := nm_integers_of) (sc := defScope s_integers_of) (by decide +kernel)) (fun _ _ _ _ _ => (kpg_tup (K := K) (n := 2) rfl rfl (pgs_cons (pg_name (i := 3) nd rfl (Or.inl rfl)) (pgs_cons (pg_name (i := 4) nd rfl (Or.inl rfl)) pgs_nil)))) (fun _ _ _ _ _ => pts_nil) (fun _ _ _ _ _ => (pe_op op_mulA (pv 3) (pe_op op_fdivA (pv 1) (pv 4))))) pa_nil)))))), ?_⟩
  exact ((sk_seq (sk_set gk_int)
    (sk_seq (sk_for (ik_seq gk_var) gt_name ((sk_set (gk_op od_mul gk_var (gk_op od_ix gk_var gk_int))) : SOk K _ b_integers_of_1))
    (sk_ret (gk_call (ak_cons (gk_lc (ik_seq gk_var) (gt_tup (gts_cons gt_name (gts_cons gt_name gts_nil))) tk_yes (gk_op od_mul gk_var (gk_op od_fdiv gk_var gk_var)) (by decide)) ak_nil))))) : SOk K _ b_integers_of)
theorem sc_quotient : FnScope nm_quotient pm_quotient (defScope s_quotient) := ⟨rfl, rfl, rfl, by decide +kernel, rfl, by decide +kernel, by decide +kernel⟩
theorem bi_quotient (T : Txt K mg) : Binds K T.quotient.fd pm_quotient [] := T.quotient.F.binds fun _ _ _ _ _ _ us hl => by obtain ⟨_, _, rfl⟩ := len2 hl; rfl
theorem ok_quotient (T : Txt K mg) : FnOk P w K mg base CX0 3 T.quotient.f T.quotient.fd pm_quotient (spF K r_quotient) := by
  have nd := sc_quotient.nd
  refine data_F T.quotient.F sc_quotient fun cdv A outer s H E hr => ?_
  refine ⟨_, (pss_one (ps_ret (pe_call (ok_lowest T) (hr.mono (by decide)) rfl T.lowest.m T.lowest.F.kp (bi_lowest T) .nil pass0 (pa_cons (pe_op op_mulA (pe_ix (kix (K := K) rfl) (pv 0) pe_int (fun _ _ => rfl)) (pe_ix (kix (K := K) rfl) (pv 1) pe_int (fun _ _ => rfl))) (pa_cons (pe_op op_mulA (pe_ix (kix (K := K) rfl) (pv 0) pe_int (fun _ _ => rfl)) (pe_ix (kix (K := K) rfl) (pv 1) pe_int (fun _ _ => rfl))) pa_nil))))), ?_⟩
  exact ((sk_ret (gk_call (ak_cons (gk_op od_mul (gk_op od_ix gk_var gk_int) (gk_op od_ix gk_var gk_int)) (ak_cons (gk_op od_mul (gk_op od_ix gk_var gk_int) (gk_op od_ix gk_var gk_int)) ak_nil)))) : SOk K _ b_quotient)
theorem sc_area_powers : FnScope nm_area_powers pm_area_powers (defScope s_area_powers) := ⟨rfl, rfl, rfl, by decide +kernel, rfl, by decide +kernel, by decide +kernel⟩
theorem bi_area_powers (T : Txt K mg) : Binds K T.area_powers.fd pm_area_powers [] := T.area_powers.F.binds fun _ _ _ _ _ _ us hl => by obtain ⟨_, rfl⟩ := len1 hl; rfl
theorem ok_area_powers (T : Txt K mg) : FnOk P w K mg base CX0 4 T.area_powers.f T.area_powers.fd pm_area_powers (spF K r_area_powers) := by
  have nd := sc_area_powers.nd
  refine data_F T.area_powers.F sc_area_powers fun cdv A outer s H E hr => ?_
  refine ⟨_, (pss_one (ps_ret (pe_lst (pa_cons (pe_glob rfl T.NOUGHT.m T.NOUGHT.r) (kpa_star (K := K) rfl (pe_lc (own := [("at", 1), ("one", 2)]) rfl nd (kpi_enumA (K := K) rfl rfl T.enumerate (pa_cons (pv 0) pa_nil)) (blkOk_by (N := nm_area_powers) (sc := defScope s_area_powers) (by decide +kernel)) (fun _ _ _ _ _ => (kpg_tup (K := K) (n := 2) rfl rfl (pgs_cons (pg_name (i := 1) nd rfl (Or.inl rfl)) (pgs_cons (pg_name (i := 2) nd rfl (Or.inl rfl)) pgs_nil)))) (fun _ _ _ _ _ => pts_nil) (fun _ _ _ _ _ => (pe_call (ok_quotient T) (hr.mono (by decide)) rfl T.quotient.m T.quotient.F.kp (bi_quotient T) .nil pass0 (pa_cons (pv 2) (pa_cons (pe_tup (pa_cons (pe_op (kop_addB (K := K) rfl) (pv 1) pe_int) (pa_cons pe_int pa_nil))) pa_nil))))) pa_nil))))), ?_⟩
  exact ((sk_ret (gk_lst (ak_cons (gk_c T.NOUGHT.d) (ak_star (gk_lc (ik_enumA (ak_cons gk_var ak_nil)) (gt_tup (gts_cons gt_name (gts_cons gt_name gts_nil))) tk_yes (gk_call (ak_cons gk_var (ak_cons (gk_tup (ak_cons (gk_op od_addB gk_var gk_int) (ak_cons gk_int ak_nil))) ak_nil))) (by decide)) ak_nil)))) : SOk K _ b_area_powers)
theorem sc_less_by : FnScope nm_less_by pm_less_by (defScope s_less_by) := ⟨rfl, rfl, rfl, by decide +kernel, rfl, by decide +kernel, by decide +kernel⟩
theorem bi_less_by (T : Txt K mg) : Binds K T.less_by.fd pm_less_by [] := T.less_by.F.binds fun _ _ _ _ _ _ us hl => by obtain ⟨_, _, rfl⟩ := len2 hl; rfl
theorem ok_less_by (T : Txt K mg) : FnOk P w K mg base CX0 3 T.less_by.f T.less_by.fd pm_less_by (spF K r_less_by) := by
  have nd := sc_less_by.nd
  refine data_F T.less_by.F sc_less_by fun cdv A outer s H E hr => ?_
  refine ⟨_, (pss_one (ps_ret (pe_call (ok_lowest T) (hr.mono (by decide)) rfl T.lowest.m T.lowest.F.kp (bi_lowest T) .nil pass0 (pa_cons (pe_op op_subA (pe_op op_mulA (pe_ix (kix (K := K) rfl) (pv 0) pe_int (fun _ _ => rfl)) (pe_ix (kix (K := K) rfl) (pv 1) pe_int (fun _ _ => rfl))) (pe_op op_mulA (pe_ix (kix (K := K) rfl) (pv 1) pe_int (fun _ _ => rfl)) (pe_ix (kix (K := K) rfl) (pv 0) pe_int (fun _ _ => rfl)))) (pa_cons (pe_op op_mulA (pe_ix (kix (K := K) rfl) (pv 0) pe_int (fun _ _ => rfl)) (pe_ix (kix (K := K) rfl) (pv 1) pe_int (fun _ _ => rfl))) pa_nil))))), ?_⟩
  exact ((sk_ret (gk_call (ak_cons (gk_op od_sub (gk_op od_mul (gk_op od_ix gk_var gk_int) (gk_op od_ix gk_var gk_int)) (gk_op od_mul (gk_op od_ix gk_var gk_int) (gk_op od_ix gk_var gk_int))) (ak_cons (gk_op od_mul (gk_op od_ix gk_var gk_int) (gk_op od_ix gk_var gk_int)) ak_nil)))) : SOk K _ b_less_by)
theorem sc_multiplied : FnScope nm_multiplied pm_multiplied (defScope s_multiplied) := ⟨rfl, rfl, rfl, by decide +kernel, rfl, by decide +kernel, by decide +kernel⟩
theorem bi_multiplied (T : Txt K mg) : Binds K T.multiplied.fd pm_multiplied [] := T.multiplied.F.binds fun _ _ _ _ _ _ us hl => by obtain ⟨_, _, rfl⟩ := len2 hl; rfl
theorem ok_multiplied (T : Txt K mg) : FnOk P w K mg base CX0 3 T.multiplied.f T.multiplied.fd pm_multiplied (spF K r_multiplied) := by
  have nd := sc_multiplied.nd
  refine data_F T.multiplied.F sc_multiplied fun cdv A outer s H E hr => ?_
  refine ⟨_, (pss_one (ps_ret (pe_call (ok_lowest T) (hr.mono (by decide)) rfl T.lowest.m T.lowest.F.kp (bi_lowest T) .nil pass0 (pa_cons (pe_op op_mulA (pe_ix (kix (K := K) rfl) (pv 0) pe_int (fun _ _ => rfl)) (pe_ix (kix (K := K) rfl) (pv 1) pe_int (fun _ _ => rfl))) (pa_cons (pe_op op_mulA (pe_ix (kix (K := K) rfl) (pv 0) pe_int (fun _ _ => rfl)) (pe_ix (kix (K := K) rfl) (pv 1) pe_int (fun _ _ => rfl))) pa_nil))))), ?_⟩
  exact ((sk_ret (gk_call (ak_cons (gk_op od_mul (gk_op od_ix gk_var gk_int) (gk_op od_ix gk_var gk_int)) (ak_cons (gk_op od_mul (gk_op od_ix gk_var gk_int) (gk_op od_ix gk_var gk_int)) ak_nil)))) : SOk K _ b_multiplied)
theorem sc_value_at_rules : FnScope nm_value_at_rules pm_value_at_rules (defScope s_value_at_rules) := ⟨rfl, rfl, rfl, by decide +kernel, rfl, by decide +kernel, by decide +kernel⟩
theorem bi_value_at_rules (T : Txt K mg) : Binds K T.value_at_rules.fd pm_value_at_rules [] := T.value_at_rules.F.binds fun _ _ _ _ _ _ us hl => by obtain ⟨_, _, rfl⟩ := len2 hl; rfl
theorem ok_value_at_rules (T : Txt K mg) : FnOk P w K mg base CX0 4 T.value_at_rules.f T.value_at_rules.fd pm_value_at_rules (spF K r_value_at_rules) := by
  have nd := sc_value_at_rules.nd
  refine data_F T.value_at_rules.F sc_value_at_rules fun cdv A outer s H E hr => ?_
  refine ⟨_, (pss_cons (ps_set (i := 2) nd rfl (Or.inl rfl) (pe_glob rfl T.NOUGHT.m T.NOUGHT.r))
    (pss_cons (ps_for PassesOwn.never rfl (kpi_seq (K := K) rfl (kpe_rev (K := K) rfl (pv 0) (pe_un un_neg pe_int))) (pg_name (i := 3) nd rfl (Or.inl rfl)) (pss_one (ps_set (i := 2) nd rfl (Or.inl rfl) (pe_call (ok_added T) (hr.mono (by decide)) rfl T.added.m T.added.F.kp (bi_added T) .nil pass0 (pa_cons (pe_call (ok_multiplied T) (hr.mono (by decide)) rfl T.multiplied.m T.multiplied.F.kp (bi_multiplied T) .nil pass0 (pa_cons (pv 2) (pa_cons (pv 1) pa_nil))) (pa_cons (pv 3) pa_nil))))))
    (pss_one (ps_ret (pv 2))))), ?_⟩
  exact ((sk_seq (sk_set (gk_c T.NOUGHT.d))
    (sk_seq (sk_for (ik_seq (gk_rev gk_var (gk_un ud_neg gk_int))) gt_name ((sk_set (gk_call (ak_cons (gk_call (ak_cons gk_var (ak_cons gk_var ak_nil))) (ak_cons gk_var ak_nil)))) : SOk K _ b_value_at_rules_1))
    (sk_ret gk_mv))) : SOk K _ b_value_at_rules)
theorem sc_told : FnScope nm_told pm_told (defScope s_told) := ⟨rfl, rfl, rfl, by decide +kernel, rfl, by decide +kernel, by decide +kernel⟩
theorem bi_told (T : Txt K mg) : Binds K T.told.fd pm_told [] := T.told.F.binds fun _ _ _ _ _ _ us hl => by obtain ⟨_, _, rfl⟩ := len2 hl; rfl
theorem kb_told_1 (T : Txt K mg) : KBn K T.told.fd pm_told 0 ["powers", "rule"] (fun us ws => pick [1, 0] (us ++ (ws ++ []))) (fun vs zs => pick [1, 0] (vs ++ (zs ++ []))) :=
  kb_F T.told.F 0 _ _ fun _ _ _ _ _ _ us ws h1 h2 => by obtain ⟨rfl⟩ := ln0 h1; obtain ⟨_, _, rfl⟩ := ln2 h2; rfl
theorem ok_told (T : Txt K mg) : FnOk P w K mg base CX0 5 T.told.f T.told.fd pm_told (spF K r_told) := by
  have nd := sc_told.nd
  refine data_F T.told.F sc_told fun cdv A outer s H E hr => ?_
  refine ⟨_, (pss_cons (ps_set (i := 2) nd rfl (Or.inr rfl) (pe_lc (own := [("one", 8)]) rfl nd (kpi_seq (K := K) rfl (pv 1)) (blkOk_by (N := nm_told) (sc := defScope s_told) (by decide +kernel)) (fun _ _ _ _ _ => (pg_name (i := 8) nd rfl (Or.inl rfl))) (fun _ _ _ _ _ => pts_nil) (fun _ _ _ _ _ => (pe_call (ok_value_of T) (hr.mono (by decide)) rfl T.value_of.m T.value_of.F.kp (bi_value_of T) .nil pass0 (pa_cons (pv 8) pa_nil)))))
    (pss_cons (ps_set (i := 3) nd rfl (Or.inl rfl) (pe_call (ok_area_powers T) (hr.mono (by decide)) rfl T.area_powers.m T.area_powers.F.kp (bi_area_powers T) .nil pass0 (pa_cons (pv 2) pa_nil)))
    (pss_cons (ps_setLc (i := 4) (own := [("point", 9), ("weight", 10)]) rfl nd rfl rfl (sw_true rfl rfl rfl (by decide +kernel)) (kpi_seq (K := K) rfl (kpe_fld (K := K) rfl (pv 0) rfl)) (blkOk_by (N := nm_told) (sc := defScope s_told) (by decide +kernel)) (fun _ _ _ _ _ => (kpg_tup (K := K) (n := 2) rfl rfl (pgs_cons (pg_name (i := 9) nd rfl (Or.inl rfl)) (pgs_cons (pg_name (i := 10) nd rfl (Or.inl rfl)) pgs_nil)))) (fun _ _ _ _ _ => pts_nil) (fun _ _ _ _ _ => (pe_call (ok_multiplied T) (hr.mono (by decide)) rfl T.multiplied.m T.multiplied.F.kp (bi_multiplied T) .nil pass0 (pa_cons (pv 10) (pa_cons (pe_call (ok_value_at_rules T) (hr.mono (by decide)) rfl T.value_at_rules.m T.value_at_rules.F.kp (bi_value_at_rules T) .nil pass0 (pa_cons (pv 2) (pa_cons (pv 9) pa_nil))) pa_nil)))))
    (pss_cons (ps_for PassesOwn.never rfl (kpi_seq (K := K) rfl (kpe_fld (K := K) rfl (pv 0) rfl)) (kpg_tup (K := K) (n := 3) rfl rfl (pgs_cons (pg_name (i := 5) nd rfl (Or.inl rfl)) (pgs_cons (pg_name (i := 6) nd rfl (Or.inl rfl)) (pgs_cons (pg_name (i := 7) nd rfl (Or.inl rfl)) pgs_nil)))) (pss_one (ps_expr (kpe_app (K := K) rfl (pv 4) (pe_call (ok_multiplied T) (hr.mono (by decide)) rfl T.multiplied.m T.multiplied.F.kp (bi_multiplied T) .nil pass0 (pa_cons (pv 7) (pa_cons (pe_call (ok_less_by T) (hr.mono (by decide)) rfl T.less_by.m T.less_by.F.kp (bi_less_by T) .nil pass0 (pa_cons (pe_call (ok_value_at_rules T) (hr.mono (by decide)) rfl T.value_at_rules.m T.value_at_rules.F.kp (bi_value_at_rules T) .nil pass0 (pa_cons (pv 3) (pa_cons (pv 6) pa_nil))) (pa_cons (pe_call (ok_value_at_rules T) (hr.mono (by decide)) rfl T.value_at_rules.m T.value_at_rules.F.kp (bi_value_at_rules T) .nil pass0 (pa_cons (pv 3) (pa_cons (pv 5) pa_nil))) pa_nil))) pa_nil)))))))
    (pss_one (ps_ret (pe_call (ok_summed T) (hr.mono (by decide)) rfl T.summed.m T.summed.F.kp (bi_summed T) .nil pass0 (pa_cons (pv 4) pa_nil)))))))), ?_⟩
  exact ((sk_seq (sk_set (gk_lc (ik_seq gk_var) gt_name tk_yes (gk_call (ak_cons gk_var ak_nil)) (by decide)))
    (sk_seq (sk_set (gk_call (ak_cons gk_var ak_nil)))
    (sk_seq (sk_set (gk_lc (ik_seq (gk_fld T.Rule rfl gk_var)) (gt_tup (gts_cons gt_name (gts_cons gt_name gts_nil))) tk_yes (gk_call (ak_cons gk_var (ak_cons (gk_call (ak_cons gk_var (ak_cons gk_var ak_nil))) ak_nil))) (by decide)))
    (sk_seq (sk_for (ik_seq (gk_fld T.Rule rfl gk_var)) (gt_tup (gts_cons gt_name (gts_cons gt_name (gts_cons gt_name gts_nil)))) ((sk_app (gk_call (ak_cons gk_var (ak_cons (gk_call (ak_cons (gk_call (ak_cons gk_var (ak_cons gk_var ak_nil))) (ak_cons (gk_call (ak_cons gk_var (ak_cons gk_var ak_nil))) ak_nil))) ak_nil)))) : SOk K _ b_told_1))
    (sk_ret (gk_call (ak_cons gk_var ak_nil))))))) : SOk K _ b_told)
theorem sc_degree : FnScope nm_degree pm_degree (defScope s_degree) := ⟨rfl, rfl, rfl, by decide +kernel, rfl, by decide +kernel, by decide +kernel⟩
theorem bi_degree (T : Txt K mg) : Binds K T.degree.fd pm_degree [] := T.degree.F.binds fun _ _ _ _ _ _ us hl => by obtain ⟨_, rfl⟩ := len1 hl; rfl
theorem ok_degree (T : Txt K mg) : FnOk P w K mg base CX0 6 T.degree.f T.degree.fd pm_degree (spF K r_degree) := by
  have nd := sc_degree.nd
  refine data_F T.degree.F sc_degree fun cdv A outer s H E hr => ?_
  refine ⟨_, (pss_cons (ps_if (pt_cmpR (kop_eq (K := K) rfl hr.units) (pe_op (kop_addB (K := K) rfl) (pe_callB (kcr_len (K := K) rfl) (by rfl) T.len (by decide +kernel) (pa_cons (kpe_fld (K := K) rfl (pv 0) rfl) pa_nil)) (pe_callB (kcr_len (K := K) rfl) (by rfl) T.len (by decide +kernel) (pa_cons (kpe_fld (K := K) rfl (pv 0) rfl) pa_nil))) pe_int (nomark _)) (pss_one (ps_ret pe_non)) pss_nil)
    (pss_cons (ps_set (i := 1) nd rfl (Or.inl rfl) (pe_lst (pa_cons (pe_glob rfl T.ONE.m T.ONE.r) pa_nil)))
    (pss_cons (ps_while PassesOwn.never (pt_cmpR (kop_eq (K := K) rfl hr.units) (pe_call (ok_told T) (hr.mono (by decide)) rfl T.told.m T.told.F.kp (bi_told T) .nil pass0 (pa_cons (pv 0) (pa_cons (pv 1) pa_nil))) (pe_glob rfl T.NOUGHT.m T.NOUGHT.r) (nomark _)) (pss_one (ps_set (i := 1) nd rfl (Or.inl rfl) (pe_lst (pa_cons (pe_glob rfl T.NOUGHT.m T.NOUGHT.r) (kpa_star (K := K) rfl (pv 1) pa_nil))))))
    (pss_one (ps_ret (pe_op op_subA (pe_callB (kcr_len (K := K) rfl) (by rfl) T.len (by decide +kernel) (pa_cons (pv 1) pa_nil)) pe_int)))))), ?_⟩
  exact ((sk_seq (sk_if (tk_test (gk_op od_eq (gk_op od_addB (gk_cb cd_len (ak_cons (gk_fld T.Rule rfl gk_var) ak_nil)) (gk_cb cd_len (ak_cons (gk_fld T.Rule rfl gk_var) ak_nil))) gk_int)) (sk_ret gk_non) sk_next)
    (sk_seq (sk_set (gk_lst (ak_cons (gk_c T.ONE.d) ak_nil)))
    (sk_seq (sk_while (fun _ => 1000) (tk_test (gk_op od_eq (gk_call (ak_cons gk_var (ak_cons gk_var ak_nil))) (gk_c T.NOUGHT.d))) ((sk_set (gk_lst (ak_cons (gk_c T.NOUGHT.d) (ak_star gk_var ak_nil)))) : SOk K _ b_degree_1))
    (sk_ret (gk_op od_sub (gk_cb cd_len (ak_cons gk_var ak_nil)) gk_int))))) : SOk K _ b_degree)
theorem sc_is_exact_enough : FnScope nm_is_exact_enough pm_is_exact_enough (defScope s_is_exact_enough) := ⟨rfl, rfl, rfl, by decide +kernel, rfl, by decide +kernel, by decide +kernel⟩
theorem bi_is_exact_enough (T : Txt K mg) : Binds K T.is_exact_enough.fd pm_is_exact_enough [] := T.is_exact_enough.F.binds fun _ _ _ _ _ _ us hl => by obtain ⟨_, _, rfl⟩ := len2 hl; rfl
theorem ok_is_exact_enough (T : Txt K mg) : FnOk P w K mg base CX0 7 T.is_exact_enough.f T.is_exact_enough.fd pm_is_exact_enough (spF K r_is_exact_enough) := by
  have nd := sc_is_exact_enough.nd
  refine data_F T.is_exact_enough.F sc_is_exact_enough fun cdv A outer s H E hr => ?_
  refine ⟨_, (pss_cons (ps_set (i := 2) nd rfl (Or.inl rfl) (pe_call (ok_degree T) (hr.mono (by decide)) rfl T.degree.m T.degree.F.kp (bi_degree T) .nil pass0 (pa_cons (pv 0) pa_nil)))
    (pss_one (ps_ret (pe_or (pe_cmpR op_isA (pv 2) pe_non (nomark _)) (pe_one (pe_cmpR op_ge (pv 2) (pe_op op_subA (pv 1) pe_int) (nomark _))))))), ?_⟩
  exact ((sk_seq (sk_set (gk_call (ak_cons gk_var ak_nil)))
    (sk_ret (gk_vor (gk_op od_is gk_var gk_non) (gk_op od_ge gk_var (gk_op od_sub gk_var gk_int))))) : SOk K _ b_is_exact_enough)
theorem sc_plus : FnScope nm_plus pm_plus (defScope s_plus) := ⟨rfl, rfl, rfl, by decide +kernel, rfl, by decide +kernel, by decide +kernel⟩
theorem bi_plus_2 (T : Txt K mg) : ∃ ds, Vals (T.plus.dvs.drop 0) ds ∧ Binds K T.plus.fd pm_plus ds := by
  have hl : T.plus.dvs.length = 1 := (T.plus.d fun _ => none).len
  refine T.plus.F.binds1 2 0 (fun z => by rw [z] at hl; cases hl) (by rw [hl]; rfl) fun _ _ _ _ _ _ _ us its h1 h2 => ?_
  rw [hl] at h2
  match us, h1, its, h2 with | [_, _], _, [_], _ => exact ⟨_, rfl, rfl⟩
theorem bi_plus_3 (T : Txt K mg) : ∃ ds, Vals (T.plus.dvs.drop 1) ds ∧ Binds K T.plus.fd pm_plus ds := by
  have hl : T.plus.dvs.length = 1 := (T.plus.d fun _ => none).len
  refine T.plus.F.binds1 3 1 (fun z => by rw [z] at hl; cases hl) (by rw [hl]; rfl) fun _ _ _ _ _ _ _ us its h1 h2 => ?_
  rw [hl] at h2
  match us, h1, its, h2 with | [_, _, _], _, [_], _ => exact ⟨_, rfl, rfl⟩
theorem ok_plus (T : Txt K mg) : FnOk P w K mg base CX0 2 T.plus.f T.plus.fd pm_plus (spF K r_plus) := by
  have nd := sc_plus.nd
  refine data_FD T.plus.F sc_plus fun cdv A outer s H E hr => ?_
  refine ⟨_, (pss_cons (ps_set (i := 3) nd rfl (Or.inl rfl) (pe_callB (cr_max2 rfl) (by rfl) T.max (by decide +kernel) (pa_cons (pe_callB (kcr_len (K := K) rfl) (by rfl) T.len (by decide +kernel) (pa_cons (pv 0) pa_nil)) (pa_cons (pe_callB (kcr_len (K := K) rfl) (by rfl) T.len (by decide +kernel) (pa_cons (pv 1) pa_nil)) pa_nil))))
    (pss_cons (ps_set (i := 4) nd rfl (Or.inl rfl) (pe_lst pa_nil))
    (pss_cons (ps_for PassesOwn.never rfl (pi_range1 rfl T.range (pa_cons (pv 3) pa_nil)) (pg_name (i := 5) nd rfl (Or.inl rfl)) (pss_cons (ps_set (i := 6) nd rfl (Or.inl rfl) (pe_ifExp (pt_cmpR op_lt (pv 5) (pe_callB (kcr_len (K := K) rfl) (by rfl) T.len (by decide +kernel) (pa_cons (pv 0) pa_nil)) (nomark _)) (pe_ix (kix (K := K) rfl) (pv 0) (pv 5) (fun _ _ => rfl)) pe_int))
    (pss_one (ps_expr (kpe_app (K := K) rfl (pv 4) (pe_op (kop_addB (K := K) rfl) (pv 6) (pe_ifExp (pt_cmpR op_lt (pv 5) (pe_callB (kcr_len (K := K) rfl) (by rfl) T.len (by decide +kernel) (pa_cons (pv 1) pa_nil)) (nomark _)) (pe_op op_mulA (pv 2) (pe_ix (kix (K := K) rfl) (pv 1) (pv 5) (fun _ _ => rfl))) pe_int)))))))
    (pss_one (ps_ret (pe_call (ok_trimmed T) (hr.mono (by decide)) rfl T.trimmed.m T.trimmed.F.kp (bi_trimmed T) .nil pass0 (pa_cons (pv 4) pa_nil))))))), ?_⟩
  exact ((sk_seq (sk_set (gk_cb cd_max2 (ak_cons (gk_cb cd_len (ak_cons gk_var ak_nil)) (ak_cons (gk_cb cd_len (ak_cons gk_var ak_nil)) ak_nil))))
    (sk_seq (sk_set (gk_lst ak_nil))
    (sk_seq (sk_for (ik_range1 (ak_cons gk_var ak_nil)) gt_name ((sk_seq (sk_set (gk_if (tk_test (gk_op od_lt gk_var (gk_cb cd_len (ak_cons gk_var ak_nil)))) (gk_op od_ix gk_var gk_var) gk_int))
    (sk_app (gk_op od_addB gk_var (gk_if (tk_test (gk_op od_lt gk_var (gk_cb cd_len (ak_cons gk_var ak_nil)))) (gk_op od_mul gk_var (gk_op od_ix gk_var gk_var)) gk_int)))) : SOk K _ b_plus_1))
    (sk_ret (gk_call (ak_cons gk_var ak_nil)))))) : SOk K _ b_plus)
theorem sc_primitive : FnScope nm_primitive pm_primitive (defScope s_primitive) := ⟨rfl, rfl, rfl, by decide +kernel, rfl, by decide +kernel, by decide +kernel⟩
theorem bi_primitive (T : Txt K mg) : Binds K T.primitive.fd pm_primitive [] := T.primitive.F.binds fun _ _ _ _ _ _ us hl => by obtain ⟨_, rfl⟩ := len1 hl; rfl
theorem ok_primitive (T : Txt K mg) : FnOk P w K mg base CX0 2 T.primitive.f T.primitive.fd pm_primitive (spF K r_primitive) := by
  have nd := sc_primitive.nd
  refine data_F T.primitive.F sc_primitive fun cdv A outer s H E hr => ?_
  refine ⟨_, (pss_cons (ps_set (i := 1) nd rfl (Or.inr rfl) pe_int)
    (pss_cons (ps_for PassesOwn.never rfl (kpi_seq (K := K) rfl (pv 0)) (pg_name (i := 2) nd rfl (Or.inl rfl)) (pss_one (ps_set (i := 1) nd rfl (Or.inr rfl) (pe_call (ok_divisor T) (hr.mono (by decide)) rfl T.divisor.m T.divisor.F.kp (bi_divisor T) .nil pass0 (pa_cons (pv 1) (pa_cons (pv 2) pa_nil))))))
    (pss_one (ps_ret (pe_ifExp (pt_cmpR op_lt (pv 1) pe_int (nomark _)) (pv 0) (pe_callTy (kcr_tuple (K := K) rfl) (by rfl) T.tuple (by decide +kernel) (pa_cons (pe_lc (own := [("count", 2)]) rfl nd (kpi_seq (K := K) rfl (pv 0)) (blkOk_by (N := nm_primitive) (sc := defScope s_primitive) (by decide +kernel)) (fun _ _ _ _ _ => (pg_name (i := 2) nd rfl (Or.inl rfl))) (fun _ _ _ _ _ => pts_nil) (fun _ _ _ _ _ => (pe_op op_fdivA (pv 2) (pv 1)))) pa_nil))))))), ?_⟩
  exact ((sk_seq (sk_set gk_int)
    (sk_seq (sk_for (ik_seq gk_var) gt_name ((sk_set (gk_call (ak_cons gk_var (ak_cons gk_var ak_nil)))) : SOk K _ b_primitive_1))
    (sk_ret (gk_if (tk_test (gk_op od_lt gk_var gk_int)) gk_var (gk_cb cd_tuple (ak_cons (gk_lc (ik_seq gk_var) gt_name tk_yes (gk_op od_fdiv gk_var gk_var) (by decide)) ak_nil)))))) : SOk K _ b_primitive)
theorem sc_product : FnScope nm_product pm_product (defScope s_product) := ⟨rfl, rfl, rfl, by decide +kernel, rfl, by decide +kernel, by decide +kernel⟩
theorem bi_product (T : Txt K mg) : Binds K T.product.fd pm_product [] := T.product.F.binds fun _ _ _ _ _ _ us hl => by obtain ⟨_, _, rfl⟩ := len2 hl; rfl
theorem ok_product (T : Txt K mg) : FnOk P w K mg base CX0 2 T.product.f T.product.fd pm_product (spF K r_product) := by
  have nd := sc_product.nd
  refine data_F T.product.F sc_product fun cdv A outer s H E hr => ?_
  refine ⟨_, (pss_cons (ps_if (PW.pt (pw_or (pt_cmpR (kop_eq (K := K) rfl hr.units) (pv 0) (pe_tup pa_nil) (nomark _)) (pw_or1 (pt_cmpR (kop_eq (K := K) rfl hr.units) (pv 1) (pe_tup pa_nil) (nomark _))))) (pss_one (ps_ret (pe_tup pa_nil))) pss_nil)
    (pss_cons (ps_setLc (i := 2) (own := [("place", 7)]) rfl nd rfl rfl (sw_true rfl rfl rfl (by decide +kernel)) (pi_range1 rfl T.range (pa_cons (pe_op op_subA (pe_op (kop_addB (K := K) rfl) (pe_callB (kcr_len (K := K) rfl) (by rfl) T.len (by decide +kernel) (pa_cons (pv 0) pa_nil)) (pe_callB (kcr_len (K := K) rfl) (by rfl) T.len (by decide +kernel) (pa_cons (pv 1) pa_nil))) pe_int) pa_nil)) (blkOk_by (N := nm_product) (sc := defScope s_product) (by decide +kernel)) (fun _ _ _ _ _ => (pg_name (i := 7) nd rfl (Or.inl rfl))) (fun _ _ _ _ _ => pts_nil) (fun _ _ _ _ _ => pe_int))
    (pss_cons (ps_for PassesOwn.never rfl (kpi_enumA (K := K) rfl rfl T.enumerate (pa_cons (pv 0) pa_nil)) (kpg_tup (K := K) (n := 2) rfl rfl (pgs_cons (pg_name (i := 3) nd rfl (Or.inl rfl)) (pgs_cons (pg_name (i := 4) nd rfl (Or.inl rfl)) pgs_nil))) (pss_one (ps_for PassesOwn.never rfl (kpi_enumA (K := K) rfl rfl T.enumerate (pa_cons (pv 1) pa_nil)) (kpg_tup (K := K) (n := 2) rfl rfl (pgs_cons (pg_name (i := 5) nd rfl (Or.inl rfl)) (pgs_cons (pg_name (i := 6) nd rfl (Or.inl rfl)) pgs_nil))) (pss_one (ps_augS (pv 2) (pe_op (kop_addB (K := K) rfl) (pv 3) (pv 5)) (pget_lst (K := K) rfl) (pe_op op_mulA (pv 4) (pv 6)) ip_add set_list)))))
    (pss_one (ps_ret (pe_call (ok_trimmed T) (hr.mono (by decide)) rfl T.trimmed.m T.trimmed.F.kp (bi_trimmed T) .nil pass0 (pa_cons (pv 2) pa_nil))))))), ?_⟩
  exact ((sk_seq (sk_if (tk_or (tk_test (gk_op od_eq gk_var (gk_tup ak_nil))) (tk_test (gk_op od_eq gk_var (gk_tup ak_nil)))) (sk_ret (gk_tup ak_nil)) sk_next)
    (sk_seq (sk_set (gk_lc (ik_range1 (ak_cons (gk_op od_sub (gk_op od_addB (gk_cb cd_len (ak_cons gk_var ak_nil)) (gk_cb cd_len (ak_cons gk_var ak_nil))) gk_int) ak_nil)) gt_name tk_yes gk_int (by decide)))
    (sk_seq (sk_for (ik_enumA (ak_cons gk_var ak_nil)) (gt_tup (gts_cons gt_name (gts_cons gt_name gts_nil))) ((sk_for (ik_enumA (ak_cons gk_var ak_nil)) (gt_tup (gts_cons gt_name (gts_cons gt_name gts_nil))) ((sk_augS od_ipadd (gk_op od_addB gk_var gk_var) (gk_op od_mul gk_var gk_var)) : SOk K _ b_product_1)) : SOk K _ b_product_2))
    (sk_ret (gk_call (ak_cons gk_var ak_nil)))))) : SOk K _ b_product)
theorem sc_sign_of : FnScope nm_sign_of pm_sign_of (defScope s_sign_of) := ⟨rfl, rfl, rfl, by decide +kernel, rfl, by decide +kernel, by decide +kernel⟩
theorem bi_sign_of (T : Txt K mg) : Binds K T.sign_of.fd pm_sign_of [] := T.sign_of.F.binds fun _ _ _ _ _ _ us hl => by obtain ⟨_, rfl⟩ := len1 hl; rfl
theorem ok_sign_of (T : Txt K mg) : FnOk P w K mg base CX0 1 T.sign_of.f T.sign_of.fd pm_sign_of (spF K r_sign_of) := by
  have nd := sc_sign_of.nd
  refine data_F T.sign_of.F sc_sign_of fun cdv A outer s H E hr => ?_
  refine ⟨_, (pss_one (ps_ret (pe_op op_subA (pe_callTy cr_int (by rfl) T.int (by decide +kernel) (pa_cons (pe_cmpR op_gt (pv 0) pe_int (nomark _)) pa_nil)) (pe_callTy cr_int (by rfl) T.int (by decide +kernel) (pa_cons (pe_cmpR op_lt (pv 0) pe_int (nomark _)) pa_nil))))), ?_⟩
  exact ((sk_ret (gk_op od_sub (gk_cb cd_int (ak_cons (gk_op od_gt gk_var gk_int) ak_nil)) (gk_cb cd_int (ak_cons (gk_op od_lt gk_var gk_int) ak_nil)))) : SOk K _ b_sign_of)
theorem sc_parted : FnScope nm_parted pm_parted (defScope s_parted) := ⟨rfl, rfl, rfl, by decide +kernel, rfl, by decide +kernel, by decide +kernel⟩
theorem bi_parted (T : Txt K mg) : Binds K T.parted.fd pm_parted [] := T.parted.F.binds fun _ _ _ _ _ _ us hl => by obtain ⟨_, _, rfl⟩ := len2 hl; rfl
theorem ok_parted (T : Txt K mg) : FnOk P w K mg base CX0 3 T.parted.f T.parted.fd pm_parted (spF K r_parted) := by
  have nd := sc_parted.nd
  refine data_F T.parted.F sc_parted fun cdv A outer s H E hr => ?_
  refine ⟨_, (pss_cons (ps_asg (pe_tup (pa_cons (pe_callB cr_abs (by rfl) T.abs (by decide +kernel) (pa_cons (pe_ix (kix (K := K) rfl) (pv 1) (pe_un un_neg pe_int) (fun _ _ => rfl)) pa_nil)) (pa_cons (pv 0) (pa_cons (pe_tup pa_nil) pa_nil)))) (kpg_tup (K := K) (n := 3) rfl rfl (pgs_cons (pg_name (i := 2) nd rfl (Or.inr rfl)) (pgs_cons (pg_name (i := 3) nd rfl (Or.inl rfl)) (pgs_cons (pg_name (i := 4) nd rfl (Or.inl rfl)) pgs_nil)))))
    (pss_cons (ps_while PassesOwn.never (pt_cmpR op_ge (pe_callB (kcr_len (K := K) rfl) (by rfl) T.len (by decide +kernel) (pa_cons (pv 3) pa_nil)) (pe_callB (kcr_len (K := K) rfl) (by rfl) T.len (by decide +kernel) (pa_cons (pv 1) pa_nil)) (nomark _)) (pss_cons (ps_set (i := 5) nd rfl (Or.inl rfl) (pe_op op_mulA (pe_call (ok_sign_of T) (hr.mono (by decide)) rfl T.sign_of.m T.sign_of.F.kp (bi_sign_of T) .nil pass0 (pa_cons (pe_ix (kix (K := K) rfl) (pv 1) (pe_un un_neg pe_int) (fun _ _ => rfl)) pa_nil)) (pe_ix (kix (K := K) rfl) (pv 3) (pe_un un_neg pe_int) (fun _ _ => rfl))))
    (pss_cons (ps_set (i := 6) nd rfl (Or.inl rfl) (pe_op (kop_mulC (K := K) rfl) (pe_tup (pa_cons pe_int pa_nil)) (pe_op op_subA (pe_callB (kcr_len (K := K) rfl) (by rfl) T.len (by decide +kernel) (pa_cons (pv 3) pa_nil)) (pe_callB (kcr_len (K := K) rfl) (by rfl) T.len (by decide +kernel) (pa_cons (pv 1) pa_nil)))))
    (pss_cons (ps_set (i := 4) nd rfl (Or.inl rfl) (pe_call (ok_plus T) (hr.mono (by decide)) rfl T.plus.m T.plus.F.kp (bi_plus_2 T).choose_spec.2 (bi_plus_2 T).choose_spec.1 pass0 (pa_cons (pe_lc (own := [("count", 8)]) rfl nd (kpi_seq (K := K) rfl (pv 4)) (blkOk_by (N := nm_parted) (sc := defScope s_parted) (by decide +kernel)) (fun _ _ _ _ _ => (pg_name (i := 8) nd rfl (Or.inl rfl))) (fun _ _ _ _ _ => pts_nil) (fun _ _ _ _ _ => (pe_op op_mulA (pv 2) (pv 8)))) (pa_cons (pe_tup (kpa_star (K := K) rfl (pv 6) (pa_cons (pv 5) pa_nil))) pa_nil))))
    (pss_cons (ps_set (i := 3) nd rfl (Or.inl rfl) (pe_call (ok_plus T) (hr.mono (by decide)) rfl T.plus.m T.plus.F.kp (bi_plus_3 T).choose_spec.2 (bi_plus_3 T).choose_spec.1 pass0 (pa_cons (pe_lc (own := [("count", 8)]) rfl nd (kpi_seq (K := K) rfl (pv 3)) (blkOk_by (N := nm_parted) (sc := defScope s_parted) (by decide +kernel)) (fun _ _ _ _ _ => (pg_name (i := 8) nd rfl (Or.inl rfl))) (fun _ _ _ _ _ => pts_nil) (fun _ _ _ _ _ => (pe_op op_mulA (pv 2) (pv 8)))) (pa_cons (pe_call (ok_product T) (hr.mono (by decide)) rfl T.product.m T.product.F.kp (bi_product T) .nil pass0 (pa_cons (pe_tup (kpa_star (K := K) rfl (pv 6) (pa_cons pe_int pa_nil))) (pa_cons (pv 1) pa_nil))) (pa_cons (pe_un un_neg (pv 5)) pa_nil)))))
    (pss_cons (ps_set (i := 7) nd rfl (Or.inr rfl) pe_int)
    (pss_cons (ps_for PassesOwn.never rfl (kpi_seq (K := K) rfl (pe_tup (kpa_star (K := K) rfl (pv 4) (kpa_star (K := K) rfl (pv 3) pa_nil)))) (pg_name (i := 8) nd rfl (Or.inl rfl)) (pss_one (ps_set (i := 7) nd rfl (Or.inr rfl) (pe_call (ok_divisor T) (hr.mono (by decide)) rfl T.divisor.m T.divisor.F.kp (bi_divisor T) .nil pass0 (pa_cons (pv 7) (pa_cons (pv 8) pa_nil))))))
    (pss_one (ps_if (pt_cmpR op_gt (pv 7) pe_int (nomark _)) (pss_cons (ps_set (i := 4) nd rfl (Or.inl rfl) (pe_callTy (kcr_tuple (K := K) rfl) (by rfl) T.tuple (by decide +kernel) (pa_cons (pe_lc (own := [("count", 8)]) rfl nd (kpi_seq (K := K) rfl (pv 4)) (blkOk_by (N := nm_parted) (sc := defScope s_parted) (by decide +kernel)) (fun _ _ _ _ _ => (pg_name (i := 8) nd rfl (Or.inl rfl))) (fun _ _ _ _ _ => pts_nil) (fun _ _ _ _ _ => (pe_op op_fdivA (pv 8) (pv 7)))) pa_nil)))
    (pss_one (ps_set (i := 3) nd rfl (Or.inl rfl) (pe_callTy (kcr_tuple (K := K) rfl) (by rfl) T.tuple (by decide +kernel) (pa_cons (pe_lc (own := [("count", 8)]) rfl nd (kpi_seq (K := K) rfl (pv 3)) (blkOk_by (N := nm_parted) (sc := defScope s_parted) (by decide +kernel)) (fun _ _ _ _ _ => (pg_name (i := 8) nd rfl (Or.inl rfl))) (fun _ _ _ _ _ => pts_nil) (fun _ _ _ _ _ => (pe_op op_fdivA (pv 8) (pv 7)))) pa_nil))))) pss_nil)))))))))
    (pss_one (ps_ret (pe_tup (pa_cons (pe_call (ok_primitive T) (hr.mono (by decide)) rfl T.primitive.m T.primitive.F.kp (bi_primitive T) .nil pass0 (pa_cons (pv 4) pa_nil)) (pa_cons (pe_call (ok_primitive T) (hr.mono (by decide)) rfl T.primitive.m T.primitive.F.kp (bi_primitive T) .nil pass0 (pa_cons (pv 3) pa_nil)) pa_nil))))))), ?_⟩
  exact ((sk_seq (sk_asg (gk_tup (ak_cons (gk_cb cd_abs (ak_cons (gk_op od_ix gk_var (gk_un ud_neg gk_int)) ak_nil)) (ak_cons gk_var (ak_cons (gk_tup ak_nil) ak_nil)))) (gt_tup (gts_cons gt_name (gts_cons gt_name (gts_cons gt_name gts_nil)))))
    (sk_seq (sk_while (fun _ => 1000) (tk_test (gk_op od_ge (gk_cb cd_len (ak_cons gk_var ak_nil)) (gk_cb cd_len (ak_cons gk_var ak_nil)))) ((sk_seq (sk_set (gk_op od_mul (gk_call (ak_cons (gk_op od_ix gk_var (gk_un ud_neg gk_int)) ak_nil)) (gk_op od_ix gk_var (gk_un ud_neg gk_int))))
    (sk_seq (sk_set (gk_op od_mulC (gk_tup (ak_cons gk_int ak_nil)) (gk_op od_sub (gk_cb cd_len (ak_cons gk_var ak_nil)) (gk_cb cd_len (ak_cons gk_var ak_nil)))))
    (sk_seq (sk_set (gk_callD (fun H => drs_drop (T.plus.d H) 0) (ak_cons (gk_lc (ik_seq gk_var) gt_name tk_yes (gk_op od_mul gk_var gk_var) (by decide)) (ak_cons (gk_tup (ak_star gk_var (ak_cons gk_var ak_nil))) ak_nil))))
    (sk_seq (sk_set (gk_callD (fun H => drs_drop (T.plus.d H) 1) (ak_cons (gk_lc (ik_seq gk_var) gt_name tk_yes (gk_op od_mul gk_var gk_var) (by decide)) (ak_cons (gk_call (ak_cons (gk_tup (ak_star gk_var (ak_cons gk_int ak_nil))) (ak_cons gk_var ak_nil))) (ak_cons (gk_un ud_neg gk_var) ak_nil)))))
    (sk_seq (sk_set gk_int)
    (sk_seq (sk_for (ik_seq (gk_tup (ak_star gk_var (ak_star gk_var ak_nil)))) gt_name ((sk_set (gk_call (ak_cons gk_var (ak_cons gk_var ak_nil)))) : SOk K _ b_parted_1))
    (sk_if (tk_test (gk_op od_gt gk_var gk_int)) (sk_seq (sk_set (gk_cb cd_tuple (ak_cons (gk_lc (ik_seq gk_var) gt_name tk_yes (gk_op od_fdiv gk_var gk_var) (by decide)) ak_nil)))
    (sk_set (gk_cb cd_tuple (ak_cons (gk_lc (ik_seq gk_var) gt_name tk_yes (gk_op od_fdiv gk_var gk_var) (by decide)) ak_nil)))) sk_next))))))) : SOk K _ b_parted_2))
    (sk_ret (gk_tup (ak_cons (gk_call (ak_cons gk_var ak_nil)) (ak_cons (gk_call (ak_cons gk_var ak_nil)) ak_nil)))))) : SOk K _ b_parted)
theorem sc_rest : FnScope nm_rest pm_rest (defScope s_rest) := ⟨rfl, rfl, rfl, by decide +kernel, rfl, by decide +kernel, by decide +kernel⟩
theorem bi_rest (T : Txt K mg) : Binds K T.rest.fd pm_rest [] := T.rest.F.binds fun _ _ _ _ _ _ us hl => by obtain ⟨_, _, rfl⟩ := len2 hl; rfl
theorem ok_rest (T : Txt K mg) : FnOk P w K mg base CX0 4 T.rest.f T.rest.fd pm_rest (spF K r_rest) := by
  have nd := sc_rest.nd
  refine data_F T.rest.F sc_rest fun cdv A outer s H E hr => ?_
  refine ⟨_, (pss_one (ps_ret (pe_ix (kix (K := K) rfl) (pe_call (ok_parted T) (hr.mono (by decide)) rfl T.parted.m T.parted.F.kp (bi_parted T) .nil pass0 (pa_cons (pv 0) (pa_cons (pv 1) pa_nil))) pe_int (fun _ _ => rfl)))), ?_⟩
  exact ((sk_ret (gk_op od_ix (gk_call (ak_cons gk_var (ak_cons gk_var ak_nil))) gk_int)) : SOk K _ b_rest)
theorem sc_upright : FnScope nm_upright pm_upright (defScope s_upright) := ⟨rfl, rfl, rfl, by decide +kernel, rfl, by decide +kernel, by decide +kernel⟩
theorem bi_upright (T : Txt K mg) : Binds K T.upright.fd pm_upright [] := T.upright.F.binds fun _ _ _ _ _ _ us hl => by obtain ⟨_, rfl⟩ := len1 hl; rfl
theorem ok_upright (T : Txt K mg) : FnOk P w K mg base CX0 3 T.upright.f T.upright.fd pm_upright (spF K r_upright) := by
  have nd := sc_upright.nd
  refine data_F T.upright.F sc_upright fun cdv A outer s H E hr => ?_
  refine ⟨_, (pss_cons (ps_set (i := 1) nd rfl (Or.inl rfl) (pe_call (ok_primitive T) (hr.mono (by decide)) rfl T.primitive.m T.primitive.F.kp (bi_primitive T) .nil pass0 (pa_cons (pv 0) pa_nil)))
    (pss_one (ps_ret (pe_ifExp (PW.pt (pw_or (pt_cmpR (kop_eq (K := K) rfl hr.units) (pv 1) (pe_tup pa_nil) (nomark _)) (pw_or1 (pt_cmpR op_gt (pe_ix (kix (K := K) rfl) (pv 1) (pe_un un_neg pe_int) (fun _ _ => rfl)) pe_int (nomark _))))) (pv 1) (pe_callTy (kcr_tuple (K := K) rfl) (by rfl) T.tuple (by decide +kernel) (pa_cons (pe_lc (own := [("count", 2)]) rfl nd (kpi_seq (K := K) rfl (pv 1)) (blkOk_by (N := nm_upright) (sc := defScope s_upright) (by decide +kernel)) (fun _ _ _ _ _ => (pg_name (i := 2) nd rfl (Or.inl rfl))) (fun _ _ _ _ _ => pts_nil) (fun _ _ _ _ _ => (pe_un un_neg (pv 2)))) pa_nil)))))), ?_⟩
  exact ((sk_seq (sk_set (gk_call (ak_cons gk_var ak_nil)))
    (sk_ret (gk_if (tk_or (tk_test (gk_op od_eq gk_var (gk_tup ak_nil))) (tk_test (gk_op od_gt (gk_op od_ix gk_var (gk_un ud_neg gk_int)) gk_int))) gk_var (gk_cb cd_tuple (ak_cons (gk_lc (ik_seq gk_var) gt_name tk_yes (gk_un ud_neg gk_var) (by decide)) ak_nil))))) : SOk K _ b_upright)
theorem sc_common : FnScope nm_common pm_common (defScope s_common) := ⟨rfl, rfl, rfl, by decide +kernel, rfl, by decide +kernel, by decide +kernel⟩
theorem bi_common (T : Txt K mg) : Binds K T.common.fd pm_common [] := T.common.F.binds fun _ _ _ _ _ _ us hl => by obtain ⟨_, _, rfl⟩ := len2 hl; rfl
theorem ok_common (T : Txt K mg) : FnOk P w K mg base CX0 5 T.common.f T.common.fd pm_common (spF K r_common) := by
  have nd := sc_common.nd
  refine data_F T.common.F sc_common fun cdv A outer s H E hr => ?_
  refine ⟨_, (pss_cons (ps_while PassesOwn.never (pt_cmpR (kop_ne (K := K) rfl hr.units) (pv 1) (pe_tup pa_nil) (nomark _)) (pss_one (ps_par (i := 0) (j := 1) rfl nd rfl rfl (by decide) rfl rfl (pa_cons (pv 1) (pa_cons (pe_call (ok_rest T) (hr.mono (by decide)) rfl T.rest.m T.rest.F.kp (bi_rest T) .nil pass0 (pa_cons (pv 0) (pa_cons (pv 1) pa_nil))) pa_nil)) (by rfl))))
    (pss_one (ps_ret (pe_call (ok_upright T) (hr.mono (by decide)) rfl T.upright.m T.upright.F.kp (bi_upright T) .nil pass0 (pa_cons (pv 0) pa_nil))))), ?_⟩
  exact ((sk_seq (sk_while (fun _ => 1000) (tk_test (gk_op od_ne gk_var (gk_tup ak_nil))) ((sk_ypar (yk_cons gk_var (yk_cons (gk_call (ak_cons gk_var (ak_cons gk_var ak_nil))) yk_nil))) : SOk K _ b_common_1))
    (sk_ret (gk_call (ak_cons gk_var ak_nil)))) : SOk K _ b_common)
theorem sc_derived : FnScope nm_derived pm_derived (defScope s_derived) := ⟨rfl, rfl, rfl, by decide +kernel, rfl, by decide +kernel, by decide +kernel⟩
theorem bi_derived (T : Txt K mg) : Binds K T.derived.fd pm_derived [] := T.derived.F.binds fun _ _ _ _ _ _ us hl => by obtain ⟨_, rfl⟩ := len1 hl; rfl
theorem ok_derived (T : Txt K mg) : FnOk P w K mg base CX0 2 T.derived.f T.derived.fd pm_derived (spF K r_derived) := by
  have nd := sc_derived.nd
  refine data_F T.derived.F sc_derived fun cdv A outer s H E hr => ?_
  refine ⟨_, (pss_one (ps_ret (pe_call (ok_trimmed T) (hr.mono (by decide)) rfl T.trimmed.m T.trimmed.F.kp (bi_trimmed T) .nil pass0 (pa_cons (pe_slice (ksl_B (K := K) rfl) (pe_lc (own := [("at", 1), ("count", 2)]) rfl nd (kpi_enumA (K := K) rfl rfl T.enumerate (pa_cons (pv 0) pa_nil)) (blkOk_by (N := nm_derived) (sc := defScope s_derived) (by decide +kernel)) (fun _ _ _ _ _ => (kpg_tup (K := K) (n := 2) rfl rfl (pgs_cons (pg_name (i := 1) nd rfl (Or.inl rfl)) (pgs_cons (pg_name (i := 2) nd rfl (Or.inl rfl)) pgs_nil)))) (fun _ _ _ _ _ => pts_nil) (fun _ _ _ _ _ => (pe_op op_mulA (pv 1) (pv 2)))) (po_some pe_int) po_none) pa_nil)))), ?_⟩
  exact ((sk_ret (gk_call (ak_cons (gk_sl sd_B (gk_lc (ik_enumA (ak_cons gk_var ak_nil)) (gt_tup (gts_cons gt_name (gts_cons gt_name gts_nil))) tk_yes (gk_op od_mul gk_var gk_var) (by decide)) (pk_some gk_int) pk_none) ak_nil))) : SOk K _ b_derived)
theorem sc_divided : FnScope nm_divided pm_divided (defScope s_divided) := ⟨rfl, rfl, rfl, by decide +kernel, rfl, by decide +kernel, by decide +kernel⟩
theorem bi_divided (T : Txt K mg) : Binds K T.divided.fd pm_divided [] := T.divided.F.binds fun _ _ _ _ _ _ us hl => by obtain ⟨_, _, rfl⟩ := len2 hl; rfl
theorem ok_divided (T : Txt K mg) : FnOk P w K mg base CX0 4 T.divided.f T.divided.fd pm_divided (spF K r_divided) := by
  have nd := sc_divided.nd
  refine data_F T.divided.F sc_divided fun cdv A outer s H E hr => ?_
  refine ⟨_, (pss_one (ps_ret (pe_ix (kix (K := K) rfl) (pe_call (ok_parted T) (hr.mono (by decide)) rfl T.parted.m T.parted.F.kp (bi_parted T) .nil pass0 (pa_cons (pv 0) (pa_cons (pv 1) pa_nil))) pe_int (fun _ _ => rfl)))), ?_⟩
  exact ((sk_ret (gk_op od_ix (gk_call (ak_cons gk_var (ak_cons gk_var ak_nil))) gk_int)) : SOk K _ b_divided)
theorem sc_parts_of : FnScope nm_parts_of pm_parts_of (defScope s_parts_of) := ⟨rfl, rfl, rfl, by decide +kernel, rfl, by decide +kernel, by decide +kernel⟩
theorem bi_parts_of (T : Txt K mg) : Binds K T.parts_of.fd pm_parts_of [] := T.parts_of.F.binds fun _ _ _ _ _ _ us hl => by obtain ⟨_, rfl⟩ := len1 hl; rfl
theorem ok_parts_of (T : Txt K mg) : FnOk P w K mg base CX0 6 T.parts_of.f T.parts_of.fd pm_parts_of (spF K r_parts_of) := by
  have nd := sc_parts_of.nd
  refine data_F T.parts_of.F sc_parts_of fun cdv A outer s H E hr => ?_
  refine ⟨_, (pss_cons (ps_set (i := 1) nd rfl (Or.inl rfl) (pe_call (ok_common T) (hr.mono (by decide)) rfl T.common.m T.common.F.kp (bi_common T) .nil pass0 (pa_cons (pv 0) (pa_cons (pe_call (ok_derived T) (hr.mono (by decide)) rfl T.derived.m T.derived.F.kp (bi_derived T) .nil pass0 (pa_cons (pv 0) pa_nil)) pa_nil))))
    (pss_cons (ps_par3 (i := 2) (j := 3) (l := 4) rfl nd rfl rfl rfl (by decide) (by decide) (by decide) rfl rfl rfl (pa_cons (pe_call (ok_upright T) (hr.mono (by decide)) rfl T.upright.m T.upright.F.kp (bi_upright T) .nil pass0 (pa_cons (pe_call (ok_divided T) (hr.mono (by decide)) rfl T.divided.m T.divided.F.kp (bi_divided T) .nil pass0 (pa_cons (pv 0) (pa_cons (pv 1) pa_nil))) pa_nil)) (pa_cons (pe_lst pa_nil) (pa_cons pe_int pa_nil))) (by rfl))
    (pss_cons (ps_while PassesOwn.never (pt_cmpR op_gt (pe_callB (kcr_len (K := K) rfl) (by rfl) T.len (by decide +kernel) (pa_cons (pv 2) pa_nil)) pe_int (nomark _)) (pss_cons (ps_aug (i := 4) nd rfl (Or.inl rfl) pe_int ip_add)
    (pss_cons (ps_set (i := 5) nd rfl (Or.inl rfl) (pe_call (ok_common T) (hr.mono (by decide)) rfl T.common.m T.common.F.kp (bi_common T) .nil pass0 (pa_cons (pv 2) (pa_cons (pv 1) pa_nil))))
    (pss_cons (ps_set (i := 6) nd rfl (Or.inl rfl) (pe_call (ok_upright T) (hr.mono (by decide)) rfl T.upright.m T.upright.F.kp (bi_upright T) .nil pass0 (pa_cons (pe_call (ok_divided T) (hr.mono (by decide)) rfl T.divided.m T.divided.F.kp (bi_divided T) .nil pass0 (pa_cons (pv 2) (pa_cons (pv 5) pa_nil))) pa_nil)))
    (pss_cons (ps_if (pt_cmpR op_gt (pe_callB (kcr_len (K := K) rfl) (by rfl) T.len (by decide +kernel) (pa_cons (pv 6) pa_nil)) pe_int (nomark _)) (pss_one (ps_expr (kpe_app (K := K) rfl (pv 3) (pe_tup (pa_cons (pv 4) (pa_cons (pv 6) pa_nil)))))) pss_nil)
    (pss_one (ps_par (i := 2) (j := 1) rfl nd rfl rfl (by decide) rfl rfl (pa_cons (pv 5) (pa_cons (pe_call (ok_divided T) (hr.mono (by decide)) rfl T.divided.m T.divided.F.kp (bi_divided T) .nil pass0 (pa_cons (pv 1) (pa_cons (pv 5) pa_nil))) pa_nil)) (by rfl))))))))
    (pss_one (ps_ret (pe_callTy (kcr_tuple (K := K) rfl) (by rfl) T.tuple (by decide +kernel) (pa_cons (pv 3) pa_nil))))))), ?_⟩
  exact ((sk_seq (sk_set (gk_call (ak_cons gk_var (ak_cons (gk_call (ak_cons gk_var ak_nil)) ak_nil))))
    (sk_seq (sk_ypar3 (yk_cons (gk_call (ak_cons (gk_call (ak_cons gk_var (ak_cons gk_var ak_nil))) ak_nil)) (yk_cons (gk_lst ak_nil) (yk_cons gk_int yk_nil))))
    (sk_seq (sk_while (fun _ => 1000) (tk_test (gk_op od_gt (gk_cb cd_len (ak_cons gk_var ak_nil)) gk_int)) ((sk_seq (sk_aug od_ipadd gk_int)
    (sk_seq (sk_set (gk_call (ak_cons gk_var (ak_cons gk_var ak_nil))))
    (sk_seq (sk_set (gk_call (ak_cons (gk_call (ak_cons gk_var (ak_cons gk_var ak_nil))) ak_nil)))
    (sk_seq (sk_if (tk_test (gk_op od_gt (gk_cb cd_len (ak_cons gk_var ak_nil)) gk_int)) (sk_app (gk_tup (ak_cons gk_var (ak_cons gk_var ak_nil)))) sk_next)
    (sk_ypar (yk_cons gk_var (yk_cons (gk_call (ak_cons gk_var (ak_cons gk_var ak_nil))) yk_nil))))))) : SOk K _ b_parts_of_1))
    (sk_ret (gk_cb cd_tuple (ak_cons gk_var ak_nil)))))) : SOk K _ b_parts_of)
theorem sc_chain_of : FnScope nm_chain_of pm_chain_of (defScope s_chain_of) := ⟨rfl, rfl, rfl, by decide +kernel, rfl, by decide +kernel, by decide +kernel⟩
theorem bi_chain_of (T : Txt K mg) : Binds K T.chain_of.fd pm_chain_of [] := T.chain_of.F.binds fun _ _ _ _ _ _ us hl => by obtain ⟨_, rfl⟩ := len1 hl; rfl
theorem ok_chain_of (T : Txt K mg) : FnOk P w K mg base CX0 5 T.chain_of.f T.chain_of.fd pm_chain_of (spF K r_chain_of) := by
  have nd := sc_chain_of.nd
  refine data_F T.chain_of.F sc_chain_of fun cdv A outer s H E hr => ?_
  refine ⟨_, (pss_cons (ps_if (pt_cmpR op_lt (pe_callB (kcr_len (K := K) rfl) (by rfl) T.len (by decide +kernel) (pa_cons (pv 0) pa_nil)) pe_int (nomark _)) (pss_one (ps_ret (pe_tup (pa_cons (pv 0) pa_nil)))) pss_nil)
    (pss_cons (ps_set (i := 1) nd rfl (Or.inl rfl) (pe_lst (pa_cons (pv 0) (pa_cons (pe_call (ok_primitive T) (hr.mono (by decide)) rfl T.primitive.m T.primitive.F.kp (bi_primitive T) .nil pass0 (pa_cons (pe_call (ok_derived T) (hr.mono (by decide)) rfl T.derived.m T.derived.F.kp (bi_derived T) .nil pass0 (pa_cons (pv 0) pa_nil)) pa_nil)) pa_nil))))
    (pss_cons (ps_while PassesOwn.never (pt_cmpR op_gt (pe_callB (kcr_len (K := K) rfl) (by rfl) T.len (by decide +kernel) (pa_cons (pe_ix (kix (K := K) rfl) (pv 1) (pe_un un_neg pe_int) (fun _ _ => rfl)) pa_nil)) pe_int (nomark _)) (pss_one (ps_expr (kpe_app (K := K) rfl (pv 1) (pe_callTy (kcr_tuple (K := K) rfl) (by rfl) T.tuple (by decide +kernel) (pa_cons (pe_lc (own := [("count", 2)]) rfl nd (kpi_seq (K := K) rfl (pe_call (ok_rest T) (hr.mono (by decide)) rfl T.rest.m T.rest.F.kp (bi_rest T) .nil pass0 (pa_cons (pe_ix (kix (K := K) rfl) (pv 1) (pe_un un_neg pe_int) (fun _ _ => rfl)) (pa_cons (pe_ix (kix (K := K) rfl) (pv 1) (pe_un un_neg pe_int) (fun _ _ => rfl)) pa_nil)))) (blkOk_by (N := nm_chain_of) (sc := defScope s_chain_of) (by decide +kernel)) (fun _ _ _ _ _ => (pg_name (i := 2) nd rfl (Or.inl rfl))) (fun _ _ _ _ _ => pts_nil) (fun _ _ _ _ _ => (pe_un un_neg (pv 2)))) pa_nil))))))
    (pss_one (ps_ret (pe_callTy (kcr_tuple (K := K) rfl) (by rfl) T.tuple (by decide +kernel) (pa_cons (pv 1) pa_nil))))))), ?_⟩
  exact ((sk_seq (sk_if (tk_test (gk_op od_lt (gk_cb cd_len (ak_cons gk_var ak_nil)) gk_int)) (sk_ret (gk_tup (ak_cons gk_var ak_nil))) sk_next)
    (sk_seq (sk_set (gk_lst (ak_cons gk_var (ak_cons (gk_call (ak_cons (gk_call (ak_cons gk_var ak_nil)) ak_nil)) ak_nil))))
    (sk_seq (sk_while (fun _ => 1000) (tk_test (gk_op od_gt (gk_cb cd_len (ak_cons (gk_by (gk_ixv (gk_un ud_neg gk_int)) (gk_op od_ix gk_var (gk_un ud_neg gk_int))) ak_nil)) gk_int)) ((sk_app (gk_cb cd_tuple (ak_cons (gk_lc (ik_seq (gk_call (ak_cons (gk_by (gk_ixv (gk_un ud_neg gk_int)) (gk_op od_ix gk_var (gk_un ud_neg gk_int))) (ak_cons (gk_by (gk_ixv (gk_un ud_neg gk_int)) (gk_op od_ix gk_var (gk_un ud_neg gk_int))) ak_nil)))) gt_name tk_yes (gk_un ud_neg gk_var) (by decide)) ak_nil))) : SOk K _ b_chain_of_1))
    (sk_ret (gk_cb cd_tuple (ak_cons gk_var ak_nil)))))) : SOk K _ b_chain_of)
theorem sc_sign_changes : FnScope nm_sign_changes pm_sign_changes (defScope s_sign_changes) := ⟨rfl, rfl, rfl, by decide +kernel, rfl, by decide +kernel, by decide +kernel⟩
theorem bi_sign_changes (T : Txt K mg) : Binds K T.sign_changes.fd pm_sign_changes [] := T.sign_changes.F.binds fun _ _ _ _ _ _ us hl => by obtain ⟨_, rfl⟩ := len1 hl; rfl
theorem ok_sign_changes (T : Txt K mg) : FnOk P w K mg base CX0 1 T.sign_changes.f T.sign_changes.fd pm_sign_changes (spF K r_sign_changes) := by
  have nd := sc_sign_changes.nd
  refine data_F T.sign_changes.F sc_sign_changes fun cdv A outer s H E hr => ?_
  refine ⟨_, (pss_cons (ps_setLc (i := 1) (own := [("sign", 2)]) rfl nd rfl rfl (sw_true rfl rfl rfl (by decide +kernel)) (kpi_seq (K := K) rfl (pv 0)) (blkOk_by (N := nm_sign_changes) (sc := defScope s_sign_changes) (by decide +kernel)) (fun _ _ _ _ _ => (pg_name (i := 2) nd rfl (Or.inl rfl))) (fun _ _ _ _ _ => (pts_one (pt_cmpR (kop_ne (K := K) rfl hr.units) (pv 2) pe_int (nomark _)))) (fun _ _ _ _ _ => (pv 2)))
    (pss_one (ps_ret (pe_callB (kcr_len (K := K) rfl) (by rfl) T.len (by decide +kernel) (pa_cons (pe_lc (own := [("one", 3), ("other", 4)]) rfl nd (kpi_zipA (K := K) rfl rfl T.zip (pa_cons (pv 1) (pa_cons (pe_slice (ksl_B (K := K) rfl) (pv 1) (po_some pe_int) po_none) pa_nil))) (blkOk_by (N := nm_sign_changes) (sc := defScope s_sign_changes) (by decide +kernel)) (fun _ _ _ _ _ => (kpg_tup (K := K) (n := 2) rfl rfl (pgs_cons (pg_name (i := 3) nd rfl (Or.inl rfl)) (pgs_cons (pg_name (i := 4) nd rfl (Or.inl rfl)) pgs_nil)))) (fun _ _ _ _ _ => (pts_one (pt_cmpR (kop_ne (K := K) rfl hr.units) (pv 3) (pv 4) (nomark _)))) (fun _ _ _ _ _ => pe_int)) pa_nil))))), ?_⟩
  exact ((sk_seq (sk_set (gk_lc (ik_seq gk_var) gt_name (tk_test (gk_op od_ne gk_var gk_int)) gk_var (by decide)))
    (sk_ret (gk_cb cd_len (ak_cons (gk_lc (ik_zipA (ak_cons gk_var (ak_cons (gk_sl sd_B gk_var (pk_some gk_int) pk_none) ak_nil))) (gt_tup (gts_cons gt_name (gts_cons gt_name gts_nil))) (tk_test (gk_op od_ne gk_var gk_var)) gk_int (by decide)) ak_nil)))) : SOk K _ b_sign_changes)
theorem sc_value_at_polys : FnScope nm_value_at_polys pm_value_at_polys (defScope s_value_at_polys) := ⟨rfl, rfl, rfl, by decide +kernel, rfl, by decide +kernel, by decide +kernel⟩
theorem bi_value_at_polys (T : Txt K mg) : Binds K T.value_at_polys.fd pm_value_at_polys [] := T.value_at_polys.F.binds fun _ _ _ _ _ _ us hl => by obtain ⟨_, _, rfl⟩ := len2 hl; rfl
theorem ok_value_at_polys (T : Txt K mg) : FnOk P w K mg base CX0 1 T.value_at_polys.f T.value_at_polys.fd pm_value_at_polys (spF K r_value_at_polys) := by
  have nd := sc_value_at_polys.nd
  refine data_F T.value_at_polys.F sc_value_at_polys fun cdv A outer s H E hr => ?_
  refine ⟨_, (pss_cons (ps_asg (pe_tup (pa_cons pe_int (pa_cons pe_int pa_nil))) (kpg_tup (K := K) (n := 2) rfl rfl (pgs_cons (pg_name (i := 2) nd rfl (Or.inl rfl)) (pgs_cons (pg_name (i := 3) nd rfl (Or.inl rfl)) pgs_nil))))
    (pss_cons (ps_for PassesOwn.never rfl (kpi_seq (K := K) rfl (kpe_revA (K := K) rfl (pv 0) (pe_un un_neg pe_int))) (pg_name (i := 4) nd rfl (Or.inl rfl)) (pss_cons (ps_set (i := 2) nd rfl (Or.inl rfl) (pe_op (kop_addB (K := K) rfl) (pe_op op_mulA (pv 2) (pe_ix (kix (K := K) rfl) (pv 1) pe_int (fun _ _ => rfl))) (pe_op op_mulA (pv 4) (pv 3))))
    (pss_one (ps_set (i := 3) nd rfl (Or.inl rfl) (pe_op op_mulA (pv 3) (pe_ix (kix (K := K) rfl) (pv 1) pe_int (fun _ _ => rfl)))))))
    (pss_one (ps_ret (pv 2))))), ?_⟩
  exact ((sk_seq (sk_asg (gk_tup (ak_cons gk_int (ak_cons gk_int ak_nil))) (gt_tup (gts_cons gt_name (gts_cons gt_name gts_nil))))
    (sk_seq (sk_for (ik_seq (gk_revA gk_var (gk_un ud_neg gk_int))) gt_name ((sk_seq (sk_set (gk_op od_addB (gk_op od_mul gk_var (gk_op od_ix gk_var gk_int)) (gk_op od_mul gk_var gk_var)))
    (sk_set (gk_op od_mul gk_var (gk_op od_ix gk_var gk_int)))) : SOk K _ b_value_at_polys_1))
    (sk_ret gk_mv))) : SOk K _ b_value_at_polys)
theorem sc_changes_at : FnScope nm_changes_at pm_changes_at (defScope s_changes_at) := ⟨rfl, rfl, rfl, by decide +kernel, rfl, by decide +kernel, by decide +kernel⟩
theorem bi_changes_at (T : Txt K mg) : Binds K T.changes_at.fd pm_changes_at [] := T.changes_at.F.binds fun _ _ _ _ _ _ us hl => by obtain ⟨_, _, rfl⟩ := len2 hl; rfl
theorem ok_changes_at (T : Txt K mg) : FnOk P w K mg base CX0 2 T.changes_at.f T.changes_at.fd pm_changes_at (spF K r_changes_at) := by
  have nd := sc_changes_at.nd
  refine data_F T.changes_at.F sc_changes_at fun cdv A outer s H E hr => ?_
  refine ⟨_, (pss_one (ps_ret (pe_call (ok_sign_changes T) (hr.mono (by decide)) rfl T.sign_changes.m T.sign_changes.F.kp (bi_sign_changes T) .nil pass0 (pa_cons (pe_lc (own := [("poly", 2)]) rfl nd (kpi_seq (K := K) rfl (pv 0)) (blkOk_by (N := nm_changes_at) (sc := defScope s_changes_at) (by decide +kernel)) (fun _ _ _ _ _ => (pg_name (i := 2) nd rfl (Or.inl rfl))) (fun _ _ _ _ _ => pts_nil) (fun _ _ _ _ _ => (pe_call (ok_sign_of T) (hr.mono (by decide)) rfl T.sign_of.m T.sign_of.F.kp (bi_sign_of T) .nil pass0 (pa_cons (pe_call (ok_value_at_polys T) (hr.mono (by decide)) rfl T.value_at_polys.m T.value_at_polys.F.kp (bi_value_at_polys T) .nil pass0 (pa_cons (pv 2) (pa_cons (pv 1) pa_nil))) pa_nil)))) pa_nil)))), ?_⟩
  exact ((sk_ret (gk_call (ak_cons (gk_lc (ik_seq gk_var) gt_name tk_yes (gk_call (ak_cons (gk_call (ak_cons gk_var (ak_cons gk_var ak_nil))) ak_nil)) (by decide)) ak_nil))) : SOk K _ b_changes_at)
theorem sc_once_each : FnScope nm_once_each pm_once_each (defScope s_once_each) := ⟨rfl, rfl, rfl, by decide +kernel, rfl, by decide +kernel, by decide +kernel⟩
theorem bi_once_each (T : Txt K mg) : Binds K T.once_each.fd pm_once_each [] := T.once_each.F.binds fun _ _ _ _ _ _ us hl => by obtain ⟨_, rfl⟩ := len1 hl; rfl
theorem ok_once_each (T : Txt K mg) : FnOk P w K mg base CX0 6 T.once_each.f T.once_each.fd pm_once_each (spF K r_once_each) := by
  have nd := sc_once_each.nd
  refine data_F T.once_each.F sc_once_each fun cdv A outer s H E hr => ?_
  refine ⟨_, (pss_one (ps_ret (pe_call (ok_upright T) (hr.mono (by decide)) rfl T.upright.m T.upright.F.kp (bi_upright T) .nil pass0 (pa_cons (pe_call (ok_divided T) (hr.mono (by decide)) rfl T.divided.m T.divided.F.kp (bi_divided T) .nil pass0 (pa_cons (pv 0) (pa_cons (pe_call (ok_common T) (hr.mono (by decide)) rfl T.common.m T.common.F.kp (bi_common T) .nil pass0 (pa_cons (pv 0) (pa_cons (pe_call (ok_derived T) (hr.mono (by decide)) rfl T.derived.m T.derived.F.kp (bi_derived T) .nil pass0 (pa_cons (pv 0) pa_nil)) pa_nil))) pa_nil))) pa_nil)))), ?_⟩
  exact ((sk_ret (gk_call (ak_cons (gk_call (ak_cons gk_var (ak_cons (gk_call (ak_cons gk_var (ak_cons (gk_call (ak_cons gk_var ak_nil)) ak_nil))) ak_nil))) ak_nil))) : SOk K _ b_once_each)
theorem sc_roots_between : FnScope nm_roots_between pm_roots_between (defScope s_roots_between) := ⟨rfl, rfl, rfl, by decide +kernel, rfl, by decide +kernel, by decide +kernel⟩
theorem bi_roots_between (T : Txt K mg) : Binds K T.roots_between.fd pm_roots_between [] := T.roots_between.F.binds fun _ _ _ _ _ _ us hl => by obtain ⟨_, _, _, rfl⟩ := len3 hl; rfl
theorem ok_roots_between (T : Txt K mg) : FnOk P w K mg base CX0 7 T.roots_between.f T.roots_between.fd pm_roots_between (spF K r_roots_between) := by
  have nd := sc_roots_between.nd
  refine data_F T.roots_between.F sc_roots_between fun cdv A outer s H E hr => ?_
  refine ⟨_, (pss_cons (ps_if (pt_cmpR op_lt (pe_callB (kcr_len (K := K) rfl) (by rfl) T.len (by decide +kernel) (pa_cons (pv 0) pa_nil)) pe_int (nomark _)) (pss_one (ps_ret pe_int)) pss_nil)
    (pss_cons (ps_set (i := 3) nd rfl (Or.inl rfl) (pe_call (ok_chain_of T) (hr.mono (by decide)) rfl T.chain_of.m T.chain_of.F.kp (bi_chain_of T) .nil pass0 (pa_cons (pe_call (ok_once_each T) (hr.mono (by decide)) rfl T.once_each.m T.once_each.F.kp (bi_once_each T) .nil pass0 (pa_cons (pv 0) pa_nil)) pa_nil)))
    (pss_one (ps_ret (pe_op op_subA (pe_call (ok_changes_at T) (hr.mono (by decide)) rfl T.changes_at.m T.changes_at.F.kp (bi_changes_at T) .nil pass0 (pa_cons (pv 3) (pa_cons (pv 1) pa_nil))) (pe_call (ok_changes_at T) (hr.mono (by decide)) rfl T.changes_at.m T.changes_at.F.kp (bi_changes_at T) .nil pass0 (pa_cons (pv 3) (pa_cons (pv 2) pa_nil)))))))), ?_⟩
  exact ((sk_seq (sk_if (tk_test (gk_op od_lt (gk_cb cd_len (ak_cons gk_var ak_nil)) gk_int)) (sk_ret gk_int) sk_next)
    (sk_seq (sk_set (gk_call (ak_cons (gk_call (ak_cons gk_var ak_nil)) ak_nil)))
    (sk_ret (gk_op od_sub (gk_call (ak_cons gk_var (ak_cons gk_var ak_nil))) (gk_call (ak_cons gk_var (ak_cons gk_var ak_nil))))))) : SOk K _ b_roots_between)
theorem sc_without_ends : FnScope nm_without_ends pm_without_ends (defScope s_without_ends) := ⟨rfl, rfl, rfl, by decide +kernel, rfl, by decide +kernel, by decide +kernel⟩
theorem bi_without_ends (T : Txt K mg) : Binds K T.without_ends.fd pm_without_ends [] := T.without_ends.F.binds fun _ _ _ _ _ _ us hl => by obtain ⟨_, _, _, rfl⟩ := len3 hl; rfl
theorem ok_without_ends (T : Txt K mg) : FnOk P w K mg base CX0 5 T.without_ends.f T.without_ends.fd pm_without_ends (spF K r_without_ends) := by
  have nd := sc_without_ends.nd
  refine data_F T.without_ends.F sc_without_ends fun cdv A outer s H E hr => ?_
  refine ⟨_, (pss_cons (ps_set (i := 3) nd rfl (Or.inl rfl) (pe_lst pa_nil))
    (pss_cons (ps_for PassesOwn.never rfl (kpi_seq (K := K) rfl (pe_tup (pa_cons (pe_tup (pa_cons (pv 1) (pa_cons (pe_tup (pa_cons (pe_un un_neg (pe_ix (kix (K := K) rfl) (pv 1) pe_int (fun _ _ => rfl))) (pa_cons (pe_ix (kix (K := K) rfl) (pv 1) pe_int (fun _ _ => rfl)) pa_nil))) pa_nil))) (pa_cons (pe_tup (pa_cons (pv 2) (pa_cons (pe_tup (pa_cons (pe_ix (kix (K := K) rfl) (pv 2) pe_int (fun _ _ => rfl)) (pa_cons (pe_un un_neg (pe_ix (kix (K := K) rfl) (pv 2) pe_int (fun _ _ => rfl))) pa_nil))) pa_nil))) pa_nil)))) (kpg_tup (K := K) (n := 2) rfl rfl (pgs_cons (pg_name (i := 4) nd rfl (Or.inl rfl)) (pgs_cons (pg_name (i := 5) nd rfl (Or.inl rfl)) pgs_nil))) (pss_cons (ps_set (i := 6) nd rfl (Or.inl rfl) pe_int)
    (pss_cons (ps_while PassesOwn.never (pt_cmpR (kop_eq (K := K) rfl hr.units) (pe_call (ok_value_at_polys T) (hr.mono (by decide)) rfl T.value_at_polys.m T.value_at_polys.F.kp (bi_value_at_polys T) .nil pass0 (pa_cons (pv 0) (pa_cons (pv 4) pa_nil))) pe_int (nomark _)) (pss_cons (ps_set (i := 0) nd rfl (Or.inl rfl) (pe_call (ok_divided T) (hr.mono (by decide)) rfl T.divided.m T.divided.F.kp (bi_divided T) .nil pass0 (pa_cons (pv 0) (pa_cons (pv 5) pa_nil))))
    (pss_one (ps_aug (i := 6) nd rfl (Or.inl rfl) pe_int ip_add))))
    (pss_one (ps_expr (kpe_app (K := K) rfl (pv 3) (pv 6)))))))
    (pss_one (ps_ret (pe_tup (pa_cons (pe_ix (kix (K := K) rfl) (pv 3) pe_int (fun _ _ => rfl)) (pa_cons (pe_ix (kix (K := K) rfl) (pv 3) pe_int (fun _ _ => rfl)) (pa_cons (pv 0) pa_nil)))))))), ?_⟩
  exact ((sk_seq (sk_set (gk_lst ak_nil))
    (sk_seq (sk_for (ik_seq (gk_tup (ak_cons (gk_tup (ak_cons gk_var (ak_cons (gk_tup (ak_cons (gk_un ud_neg (gk_op od_ix gk_var gk_int)) (ak_cons (gk_op od_ix gk_var gk_int) ak_nil))) ak_nil))) (ak_cons (gk_tup (ak_cons gk_var (ak_cons (gk_tup (ak_cons (gk_op od_ix gk_var gk_int) (ak_cons (gk_un ud_neg (gk_op od_ix gk_var gk_int)) ak_nil))) ak_nil))) ak_nil)))) (gt_tup (gts_cons gt_name (gts_cons gt_name gts_nil))) ((sk_seq (sk_set gk_int)
    (sk_seq (sk_while (fun _ => 1000) (tk_test (gk_op od_eq (gk_call (ak_cons gk_var (ak_cons gk_var ak_nil))) gk_int)) ((sk_seq (sk_set (gk_call (ak_cons gk_var (ak_cons gk_var ak_nil))))
    (sk_aug od_ipadd gk_int)) : SOk K _ b_without_ends_1))
    (sk_app gk_var))) : SOk K _ b_without_ends_2))
    (sk_ret (gk_tup (ak_cons (gk_by (gk_ixv gk_int) (gk_op od_ix gk_var gk_int)) (ak_cons (gk_by (gk_ixv gk_int) (gk_op od_ix gk_var gk_int)) (ak_cons gk_var ak_nil))))))) : SOk K _ b_without_ends)
theorem sc_is_nowhere_below : FnScope nm_is_nowhere_below pm_is_nowhere_below (defScope s_is_nowhere_below) := ⟨rfl, rfl, rfl, by decide +kernel, rfl, by decide +kernel, by decide +kernel⟩
theorem bi_is_nowhere_below (T : Txt K mg) : Binds K T.is_nowhere_below.fd pm_is_nowhere_below [] := T.is_nowhere_below.F.binds fun _ _ _ _ _ _ us hl => by obtain ⟨_, _, _, rfl⟩ := len3 hl; rfl
theorem ok_is_nowhere_below (T : Txt K mg) : FnOk P w K mg base CX0 8 T.is_nowhere_below.f T.is_nowhere_below.fd pm_is_nowhere_below (spF K r_is_nowhere_below) := by
  have nd := sc_is_nowhere_below.nd
  refine data_F T.is_nowhere_below.F sc_is_nowhere_below fun cdv A outer s H E hr => ?_
  refine ⟨_, (pss_cons (ps_if (pt_cmpR (kop_eq (K := K) rfl hr.units) (pv 0) (pe_tup pa_nil) (nomark _)) (pss_one (ps_ret pe_bl)) pss_nil)
    (pss_cons (ps_set (i := 3) nd rfl (Or.inl rfl) (pe_ix (kix (K := K) rfl) (pe_call (ok_without_ends T) (hr.mono (by decide)) rfl T.without_ends.m T.without_ends.F.kp (bi_without_ends T) .nil pass0 (pa_cons (pv 0) (pa_cons (pv 1) (pa_cons (pv 2) pa_nil)))) pe_int (fun _ _ => rfl)))
    (pss_cons (ps_if (pt_cmpR op_lt (pe_call (ok_value_at_polys T) (hr.mono (by decide)) rfl T.value_at_polys.m T.value_at_polys.F.kp (bi_value_at_polys T) .nil pass0 (pa_cons (pv 3) (pa_cons (pv 2) pa_nil))) pe_int (nomark _)) (pss_one (ps_ret pe_bl)) pss_nil)
    (pss_one (ps_ret (pe_callB (kcr_all (K := K) rfl rfl) (by rfl) T.all (by decide +kernel) (pa_cons (pe_lc (own := [("often", 4), ("one", 5)]) rfl nd (kpi_seq (K := K) rfl (pe_call (ok_parts_of T) (hr.mono (by decide)) rfl T.parts_of.m T.parts_of.F.kp (bi_parts_of T) .nil pass0 (pa_cons (pv 3) pa_nil))) (blkOk_by (N := nm_is_nowhere_below) (sc := defScope s_is_nowhere_below) (by decide +kernel)) (fun _ _ _ _ _ => (kpg_tup (K := K) (n := 2) rfl rfl (pgs_cons (pg_name (i := 4) nd rfl (Or.inl rfl)) (pgs_cons (pg_name (i := 5) nd rfl (Or.inl rfl)) pgs_nil)))) (fun _ _ _ _ _ => pts_nil) (fun _ _ _ _ _ => (pe_or (pe_cmpR (kop_eq (K := K) rfl hr.units) (pe_op op_modA (pv 4) pe_int) pe_int (nomark _)) (pe_one (pe_cmpR (kop_eq (K := K) rfl hr.units) (pe_call (ok_roots_between T) (hr.mono (by decide)) rfl T.roots_between.m T.roots_between.F.kp (bi_roots_between T) .nil pass0 (pa_cons (pv 5) (pa_cons (pv 1) (pa_cons (pv 2) pa_nil)))) pe_int (nomark _)))))) pa_nil))))))), ?_⟩
  exact ((sk_seq (sk_if (tk_test (gk_op od_eq gk_var (gk_tup ak_nil))) (sk_ret gk_bl) sk_next)
    (sk_seq (sk_set (gk_op od_ix (gk_call (ak_cons gk_var (ak_cons gk_var (ak_cons gk_var ak_nil)))) gk_int))
    (sk_seq (sk_if (tk_test (gk_op od_lt (gk_call (ak_cons gk_var (ak_cons gk_var ak_nil))) gk_int)) (sk_ret gk_bl) sk_next)
    (sk_ret (gk_cb cd_all (ak_cons (gk_lc (ik_seq (gk_call (ak_cons gk_var ak_nil))) (gt_tup (gts_cons gt_name (gts_cons gt_name gts_nil))) tk_yes (gk_vor (gk_op od_eq (gk_op od_mod gk_var gk_int) gk_int) (gk_op od_eq (gk_call (ak_cons gk_var (ak_cons gk_var (ak_cons gk_var ak_nil)))) gk_int)) (by decide)) ak_nil)))))) : SOk K _ b_is_nowhere_below)
theorem sc_knots_of : FnScope nm_knots_of pm_knots_of (defScope s_knots_of) := ⟨rfl, rfl, rfl, by decide +kernel, rfl, by decide +kernel, by decide +kernel⟩
theorem bi_knots_of (T : Txt K mg) : Binds K T.knots_of.fd pm_knots_of [] := T.knots_of.F.binds fun _ _ _ _ _ _ us hl => by obtain ⟨_, rfl⟩ := len1 hl; rfl
theorem ok_knots_of (T : Txt K mg) : FnOk P w K mg base CX0 3 T.knots_of.f T.knots_of.fd pm_knots_of (spF K r_knots_of) := by
  have nd := sc_knots_of.nd
  refine data_F T.knots_of.F sc_knots_of fun cdv A outer s H E hr => ?_
  refine ⟨_, (pss_cons (ps_set (i := 1) nd rfl (Or.inl rfl) (pe_lst (pa_cons (kpe_fld (K := K) rfl (pv 0) rfl) (pa_cons (kpe_fld (K := K) rfl (pv 0) rfl) (kpa_star (K := K) rfl (pe_lc (own := [("point", 7), ("weight", 8)]) rfl nd (kpi_seq (K := K) rfl (kpe_fld (K := K) rfl (pv 0) rfl)) (blkOk_by (N := nm_knots_of) (sc := defScope s_knots_of) (by decide +kernel)) (fun _ _ _ _ _ => (kpg_tup (K := K) (n := 2) rfl rfl (pgs_cons (pg_name (i := 7) nd rfl (Or.inl rfl)) (pgs_cons (pg_name (i := 8) nd rfl (Or.inl rfl)) pgs_nil)))) (fun _ _ _ _ _ => pts_nil) (fun _ _ _ _ _ => (pv 7))) pa_nil)))))
    (pss_cons (ps_for PassesOwn.never rfl (kpi_seq (K := K) rfl (kpe_fld (K := K) rfl (pv 0) rfl)) (kpg_tup (K := K) (n := 3) rfl rfl (pgs_cons (pg_name (i := 2) nd rfl (Or.inl rfl)) (pgs_cons (pg_name (i := 3) nd rfl (Or.inl rfl)) (pgs_cons (pg_name (i := 4) nd rfl (Or.inl rfl)) pgs_nil)))) (pss_one (ps_set (i := 1) nd rfl (Or.inl rfl) (pe_lst (kpa_star (K := K) rfl (pv 1) (pa_cons (pv 2) (pa_cons (pv 3) pa_nil)))))))
    (pss_cons (ps_set (i := 5) nd rfl (Or.inr rfl) pe_int)
    (pss_cons (ps_for PassesOwn.never rfl (kpi_seq (K := K) rfl (pv 1)) (pg_name (i := 6) nd rfl (Or.inl rfl)) (pss_one (ps_set (i := 5) nd rfl (Or.inr rfl) (pe_op op_mulA (pv 5) (pe_ix (kix (K := K) rfl) (pv 6) pe_int (fun _ _ => rfl))))))
    (pss_one (ps_ret (pe_lc (own := [("count", 11)]) rfl nd (kpi_seq (K := K) rfl (pe_callB (cr_sortedSet rfl) (by rfl) T.sorted (by decide +kernel) (pa_cons (pe_callTy (kcr_setInts (K := K) rfl rfl) (by rfl) T.set (by decide +kernel) (pa_cons (pe_lc (own := [("top", 9), ("low", 10)]) rfl nd (kpi_seq (K := K) rfl (pv 1)) (blkOk_by (N := nm_knots_of) (sc := defScope s_knots_of) (by decide +kernel)) (fun _ _ _ _ _ => (kpg_tup (K := K) (n := 2) rfl rfl (pgs_cons (pg_name (i := 9) nd rfl (Or.inl rfl)) (pgs_cons (pg_name (i := 10) nd rfl (Or.inl rfl)) pgs_nil)))) (fun _ _ _ _ _ => pts_nil) (fun _ _ _ _ _ => (pe_callTy cr_int (by rfl) T.int (by decide +kernel) (pa_cons (pe_op op_mulA (pv 9) (pe_op op_fdivA (pv 5) (pv 10))) pa_nil)))) pa_nil)) pa_nil))) (blkOk_by (N := nm_knots_of) (sc := defScope s_knots_of) (by decide +kernel)) (fun _ _ _ _ _ => (pg_name (i := 11) nd rfl (Or.inl rfl))) (fun _ _ _ _ _ => pts_nil) (fun _ _ _ _ _ => (pe_call (ok_lowest T) (hr.mono (by decide)) rfl T.lowest.m T.lowest.F.kp (bi_lowest T) .nil pass0 (pa_cons (pv 11) (pa_cons (pv 5) pa_nil))))))))))), ?_⟩
  exact ((sk_seq (sk_set (gk_lst (ak_cons (gk_fld T.Rule rfl gk_var) (ak_cons (gk_fld T.Rule rfl gk_var) (ak_star (gk_lc (ik_seq (gk_fld T.Rule rfl gk_var)) (gt_tup (gts_cons gt_name (gts_cons gt_name gts_nil))) tk_yes gk_var (by decide)) ak_nil)))))
    (sk_seq (sk_for (ik_seq (gk_fld T.Rule rfl gk_var)) (gt_tup (gts_cons gt_name (gts_cons gt_name (gts_cons gt_name gts_nil)))) ((sk_set (gk_lst (ak_star gk_var (ak_cons gk_var (ak_cons gk_var ak_nil))))) : SOk K _ b_knots_of_1))
    (sk_seq (sk_set gk_int)
    (sk_seq (sk_for (ik_seq gk_var) gt_name ((sk_set (gk_op od_mul gk_var (gk_op od_ix gk_var gk_int))) : SOk K _ b_knots_of_2))
    (sk_ret (gk_lc (ik_seq (gk_sortSet (ak_cons (gk_lc (ik_seq gk_var) (gt_tup (gts_cons gt_name (gts_cons gt_name gts_nil))) tk_yes (gk_cb cd_int (ak_cons (gk_op od_mul gk_var (gk_op od_fdiv gk_var gk_var)) ak_nil)) (by decide)) ak_nil))) gt_name tk_yes (gk_call (ak_cons gk_var (ak_cons gk_var ak_nil))) (by decide))))))) : SOk K _ b_knots_of)
theorem sc_powered : FnScope nm_powered pm_powered (defScope s_powered) := ⟨rfl, rfl, rfl, by decide +kernel, rfl, by decide +kernel, by decide +kernel⟩
theorem bi_powered (T : Txt K mg) : Binds K T.powered.fd pm_powered [] := T.powered.F.binds fun _ _ _ _ _ _ us hl => by obtain ⟨_, _, rfl⟩ := len2 hl; rfl
theorem ok_powered (T : Txt K mg) : FnOk P w K mg base CX0 4 T.powered.f T.powered.fd pm_powered (spF K r_powered) := by
  have nd := sc_powered.nd
  refine data_F T.powered.F sc_powered fun cdv A outer s H E hr => ?_
  refine ⟨_, (pss_cons (ps_set (i := 2) nd rfl (Or.inl rfl) (pe_glob rfl T.ONE.m T.ONE.r))
    (pss_cons (ps_for PassesOwn.never rfl (pi_range1 rfl T.range (pa_cons (pv 1) pa_nil)) (pg_name (i := 3) nd rfl (Or.inl rfl)) (pss_one (ps_set (i := 2) nd rfl (Or.inl rfl) (pe_call (ok_multiplied T) (hr.mono (by decide)) rfl T.multiplied.m T.multiplied.F.kp (bi_multiplied T) .nil pass0 (pa_cons (pv 2) (pa_cons (pv 0) pa_nil))))))
    (pss_one (ps_ret (pv 2))))), ?_⟩
  exact ((sk_seq (sk_set (gk_c T.ONE.d))
    (sk_seq (sk_for (ik_range1 (ak_cons gk_var ak_nil)) gt_name ((sk_set (gk_call (ak_cons gk_var (ak_cons gk_var ak_nil)))) : SOk K _ b_powered_1))
    (sk_ret gk_mv))) : SOk K _ b_powered)
theorem sc_ways : FnScope nm_ways pm_ways (defScope s_ways) := ⟨rfl, rfl, rfl, by decide +kernel, rfl, by decide +kernel, by decide +kernel⟩
theorem bi_ways (T : Txt K mg) : Binds K T.ways.fd pm_ways [] := T.ways.F.binds fun _ _ _ _ _ _ us hl => by obtain ⟨_, _, rfl⟩ := len2 hl; rfl
theorem ok_ways (T : Txt K mg) : FnOk P w K mg base CX0 1 T.ways.f T.ways.fd pm_ways (spF K r_ways) := by
  have nd := sc_ways.nd
  refine data_F T.ways.F sc_ways fun cdv A outer s H E hr => ?_
  refine ⟨_, (pss_cons (ps_set (i := 2) nd rfl (Or.inl rfl) pe_int)
    (pss_cons (ps_for PassesOwn.never rfl (pi_range1 rfl T.range (pa_cons (pv 1) pa_nil)) (pg_name (i := 3) nd rfl (Or.inl rfl)) (pss_one (ps_set (i := 2) nd rfl (Or.inl rfl) (pe_op op_fdivA (pe_op op_mulA (pv 2) (pe_op op_subA (pv 0) (pv 3))) (pe_op (kop_addB (K := K) rfl) (pv 3) pe_int)))))
    (pss_one (ps_ret (pv 2))))), ?_⟩
  exact ((sk_seq (sk_set gk_int)
    (sk_seq (sk_for (ik_range1 (ak_cons gk_var ak_nil)) gt_name ((sk_set (gk_op od_fdiv (gk_op od_mul gk_var (gk_op od_sub gk_var gk_var)) (gk_op od_addB gk_var gk_int))) : SOk K _ b_ways_1))
    (sk_ret gk_mv))) : SOk K _ b_ways)
theorem sc_distance_power : FnScope nm_distance_power pm_distance_power (defScope s_distance_power) := ⟨rfl, rfl, rfl, by decide +kernel, rfl, by decide +kernel, by decide +kernel⟩
theorem bi_distance_power (T : Txt K mg) : Binds K T.distance_power.fd pm_distance_power [] := T.distance_power.F.binds fun _ _ _ _ _ _ us hl => by obtain ⟨_, _, _, rfl⟩ := len3 hl; rfl
theorem ok_distance_power (T : Txt K mg) : FnOk P w K mg base CX0 5 T.distance_power.f T.distance_power.fd pm_distance_power (spF K r_distance_power) := by
  have nd := sc_distance_power.nd
  refine data_F T.distance_power.F sc_distance_power fun cdv A outer s H E hr => ?_
  refine ⟨_, (pss_cons (ps_set (i := 3) nd rfl (Or.inl rfl) (pe_lst pa_nil))
    (pss_cons (ps_for PassesOwn.never rfl (pi_range1 rfl T.range (pa_cons (pe_op (kop_addB (K := K) rfl) (pv 1) pe_int) pa_nil)) (pg_name (i := 4) nd rfl (Or.inl rfl)) (pss_cons (ps_set (i := 5) nd rfl (Or.inl rfl) (pe_ifExp (pt_cmpR (kop_eq (K := K) rfl hr.units) (pe_op op_modA (pv 4) pe_int) pe_int (nomark _)) pe_int (pe_un un_neg pe_int)))
    (pss_one (ps_expr (kpe_app (K := K) rfl (pv 3) (pe_call (ok_multiplied T) (hr.mono (by decide)) rfl T.multiplied.m T.multiplied.F.kp (bi_multiplied T) .nil pass0 (pa_cons (pe_call (ok_multiplied T) (hr.mono (by decide)) rfl T.multiplied.m T.multiplied.F.kp (bi_multiplied T) .nil pass0 (pa_cons (pe_tup (pa_cons (pe_op op_mulA (pv 5) (pe_call (ok_ways T) (hr.mono (by decide)) rfl T.ways.m T.ways.F.kp (bi_ways T) .nil pass0 (pa_cons (pv 1) (pa_cons (pv 4) pa_nil)))) (pa_cons pe_int pa_nil))) (pa_cons (pe_call (ok_powered T) (hr.mono (by decide)) rfl T.powered.m T.powered.F.kp (bi_powered T) .nil pass0 (pa_cons (pv 0) (pa_cons (pe_op op_subA (pv 1) (pv 4)) pa_nil))) pa_nil))) (pa_cons (pv 2) pa_nil))))))))
    (pss_one (ps_ret (pv 3))))), ?_⟩
  exact ((sk_seq (sk_set (gk_lst ak_nil))
    (sk_seq (sk_for (ik_range1 (ak_cons (gk_op od_addB gk_var gk_int) ak_nil)) gt_name ((sk_seq (sk_set (gk_if (tk_test (gk_op od_eq (gk_op od_mod gk_var gk_int) gk_int)) gk_int (gk_un ud_neg gk_int)))
    (sk_app (gk_call (ak_cons (gk_call (ak_cons (gk_tup (ak_cons (gk_op od_mul gk_var (gk_call (ak_cons gk_var (ak_cons gk_var ak_nil)))) (ak_cons gk_int ak_nil))) (ak_cons (gk_call (ak_cons gk_var (ak_cons (gk_op od_sub gk_var gk_var) ak_nil))) ak_nil))) (ak_cons gk_var ak_nil))))) : SOk K _ b_distance_power_1))
    (sk_ret gk_mv))) : SOk K _ b_distance_power)
theorem sc_sum_of : FnScope nm_sum_of pm_sum_of (defScope s_sum_of) := ⟨rfl, rfl, rfl, by decide +kernel, rfl, by decide +kernel, by decide +kernel⟩
theorem bi_sum_of (T : Txt K mg) : Binds K T.sum_of.fd pm_sum_of [] := T.sum_of.F.binds fun _ _ _ _ _ _ us hl => by obtain ⟨_, _, rfl⟩ := len2 hl; rfl
theorem ok_sum_of (T : Txt K mg) : FnOk P w K mg base CX0 4 T.sum_of.f T.sum_of.fd pm_sum_of (spF K r_sum_of) := by
  have nd := sc_sum_of.nd
  refine data_F T.sum_of.F sc_sum_of fun cdv A outer s H E hr => ?_
  refine ⟨_, (pss_cons (ps_set (i := 2) nd rfl (Or.inl rfl) (pe_lst (kpa_star (K := K) rfl (pv 0) (kpa_star (K := K) rfl (pe_lc (own := [("spot", 3)]) rfl nd (pi_range1 rfl T.range (pa_cons (pe_op op_subA (pe_callB (kcr_len (K := K) rfl) (by rfl) T.len (by decide +kernel) (pa_cons (pv 1) pa_nil)) (pe_callB (kcr_len (K := K) rfl) (by rfl) T.len (by decide +kernel) (pa_cons (pv 0) pa_nil))) pa_nil)) (blkOk_by (N := nm_sum_of) (sc := defScope s_sum_of) (by decide +kernel)) (fun _ _ _ _ _ => (pg_name (i := 3) nd rfl (Or.inl rfl))) (fun _ _ _ _ _ => pts_nil) (fun _ _ _ _ _ => (pe_glob rfl T.NOUGHT.m T.NOUGHT.r))) pa_nil))))
    (pss_one (ps_ret (pe_lc (own := [("here", 4), ("there", 5)]) rfl nd (kpi_zipA (K := K) rfl rfl T.zip (pa_cons (pv 2) (pa_cons (pv 1) pa_nil))) (blkOk_by (N := nm_sum_of) (sc := defScope s_sum_of) (by decide +kernel)) (fun _ _ _ _ _ => (kpg_tup (K := K) (n := 2) rfl rfl (pgs_cons (pg_name (i := 4) nd rfl (Or.inl rfl)) (pgs_cons (pg_name (i := 5) nd rfl (Or.inl rfl)) pgs_nil)))) (fun _ _ _ _ _ => pts_nil) (fun _ _ _ _ _ => (pe_call (ok_added T) (hr.mono (by decide)) rfl T.added.m T.added.F.kp (bi_added T) .nil pass0 (pa_cons (pv 4) (pa_cons (pv 5) pa_nil)))))))), ?_⟩
  exact ((sk_seq (sk_set (gk_lst (ak_star gk_var (ak_star (gk_lc (ik_range1 (ak_cons (gk_op od_sub (gk_cb cd_len (ak_cons gk_var ak_nil)) (gk_cb cd_len (ak_cons gk_var ak_nil))) ak_nil)) gt_name tk_yes (gk_c T.NOUGHT.d) (by decide)) ak_nil))))
    (sk_ret (gk_lc (ik_zipA (ak_cons gk_var (ak_cons gk_var ak_nil))) (gt_tup (gts_cons gt_name (gts_cons gt_name gts_nil))) tk_yes (gk_call (ak_cons gk_var (ak_cons gk_var ak_nil))) (by decide)))) : SOk K _ b_sum_of)
theorem sc_piece : FnScope nm_piece pm_piece (defScope s_piece) := ⟨rfl, rfl, rfl, by decide +kernel, rfl, by decide +kernel, by decide +kernel⟩
theorem bi_piece (T : Txt K mg) : Binds K T.piece.fd pm_piece [] := T.piece.F.binds fun _ _ _ _ _ _ us hl => by obtain ⟨_, _, _, _, rfl⟩ := len4 hl; rfl
theorem ok_piece (T : Txt K mg) : FnOk P w K mg base CX0 6 T.piece.f T.piece.fd pm_piece (spF K r_piece) := by
  have nd := sc_piece.nd
  refine data_F T.piece.F sc_piece fun cdv A outer s H E hr => ?_
  refine ⟨_, (pss_cons (ps_setLc (i := 4) (own := [("spot", 11)]) rfl nd rfl rfl (sw_true rfl rfl rfl (by decide +kernel)) (pi_range1 rfl T.range (pa_cons (pe_op (kop_addB (K := K) rfl) (pv 1) pe_int) pa_nil)) (blkOk_by (N := nm_piece) (sc := defScope s_piece) (by decide +kernel)) (fun _ _ _ _ _ => (pg_name (i := 11) nd rfl (Or.inl rfl))) (fun _ _ _ _ _ => pts_nil) (fun _ _ _ _ _ => (pe_glob rfl T.NOUGHT.m T.NOUGHT.r)))
    (pss_cons (ps_for PassesOwn.never rfl (kpi_seq (K := K) rfl (kpe_fld (K := K) rfl (pv 0) rfl)) (kpg_tup (K := K) (n := 2) rfl rfl (pgs_cons (pg_name (i := 5) nd rfl (Or.inl rfl)) (pgs_cons (pg_name (i := 6) nd rfl (Or.inl rfl)) pgs_nil))) (pss_one (ps_if (pt_not (kpt_tru (K := K) rfl (pe_call (ok_is_less T) (hr.mono (by decide)) rfl T.is_less.m T.is_less.F.kp (bi_is_less T) .nil pass0 (pa_cons (pv 5) (pa_cons (pv 3) pa_nil))) (by intro _; rfl))) (pss_one (ps_set (i := 4) nd rfl (Or.inl rfl) (pe_call (ok_sum_of T) (hr.mono (by decide)) rfl T.sum_of.m T.sum_of.F.kp (bi_sum_of T) .nil pass0 (pa_cons (pe_call (ok_distance_power T) (hr.mono (by decide)) rfl T.distance_power.m T.distance_power.F.kp (bi_distance_power T) .nil pass0 (pa_cons (pv 5) (pa_cons (pe_op op_subA (pv 1) pe_int) (pa_cons (pv 6) pa_nil)))) (pa_cons (pv 4) pa_nil))))) pss_nil)))
    (pss_cons (ps_for PassesOwn.never rfl (kpi_seq (K := K) rfl (kpe_fld (K := K) rfl (pv 0) rfl)) (kpg_tup (K := K) (n := 3) rfl rfl (pgs_cons (pg_name (i := 7) nd rfl (Or.inl rfl)) (pgs_cons (pg_name (i := 8) nd rfl (Or.inl rfl)) (pgs_cons (pg_name (i := 9) nd rfl (Or.inl rfl)) pgs_nil)))) (pss_cons (ps_set (i := 10) nd rfl (Or.inl rfl) (pe_call (ok_multiplied T) (hr.mono (by decide)) rfl T.multiplied.m T.multiplied.F.kp (bi_multiplied T) .nil pass0 (pa_cons (pv 9) (pa_cons (pe_tup (pa_cons pe_int (pa_cons (pv 1) pa_nil))) pa_nil))))
    (pss_cons (ps_if (pt_not (kpt_tru (K := K) rfl (pe_call (ok_is_less T) (hr.mono (by decide)) rfl T.is_less.m T.is_less.F.kp (bi_is_less T) .nil pass0 (pa_cons (pv 8) (pa_cons (pv 3) pa_nil))) (by intro _; rfl))) (pss_one (ps_set (i := 4) nd rfl (Or.inl rfl) (pe_call (ok_sum_of T) (hr.mono (by decide)) rfl T.sum_of.m T.sum_of.F.kp (bi_sum_of T) .nil pass0 (pa_cons (pe_call (ok_distance_power T) (hr.mono (by decide)) rfl T.distance_power.m T.distance_power.F.kp (bi_distance_power T) .nil pass0 (pa_cons (pv 8) (pa_cons (pv 1) (pa_cons (pv 10) pa_nil)))) (pa_cons (pv 4) pa_nil))))) pss_nil)
    (pss_one (ps_if (pt_not (kpt_tru (K := K) rfl (pe_call (ok_is_less T) (hr.mono (by decide)) rfl T.is_less.m T.is_less.F.kp (bi_is_less T) .nil pass0 (pa_cons (pv 7) (pa_cons (pv 3) pa_nil))) (by intro _; rfl))) (pss_one (ps_set (i := 4) nd rfl (Or.inl rfl) (pe_call (ok_sum_of T) (hr.mono (by decide)) rfl T.sum_of.m T.sum_of.F.kp (bi_sum_of T) .nil pass0 (pa_cons (pe_call (ok_distance_power T) (hr.mono (by decide)) rfl T.distance_power.m T.distance_power.F.kp (bi_distance_power T) .nil pass0 (pa_cons (pv 7) (pa_cons (pv 1) (pa_cons (pe_call (ok_less_by T) (hr.mono (by decide)) rfl T.less_by.m T.less_by.F.kp (bi_less_by T) .nil pass0 (pa_cons (pe_glob rfl T.NOUGHT.m T.NOUGHT.r) (pa_cons (pv 10) pa_nil))) pa_nil)))) (pa_cons (pv 4) pa_nil))))) pss_nil)))))
    (pss_one (ps_ret (pe_callTy (kcr_tuple (K := K) rfl) (by rfl) T.tuple (by decide +kernel) (pa_cons (pv 4) pa_nil))))))), ?_⟩
  exact ((sk_seq (sk_set (gk_lc (ik_range1 (ak_cons (gk_op od_addB gk_var gk_int) ak_nil)) gt_name tk_yes (gk_c T.NOUGHT.d) (by decide)))
    (sk_seq (sk_for (ik_seq (gk_fld T.Rule rfl gk_var)) (gt_tup (gts_cons gt_name (gts_cons gt_name gts_nil))) ((sk_if (tk_not (tk_truK (gk_call (ak_cons gk_var (ak_cons gk_var ak_nil))))) (sk_set (gk_call (ak_cons (gk_call (ak_cons gk_var (ak_cons (gk_op od_sub gk_var gk_int) (ak_cons gk_var ak_nil)))) (ak_cons gk_var ak_nil)))) sk_next) : SOk K _ b_piece_1))
    (sk_seq (sk_for (ik_seq (gk_fld T.Rule rfl gk_var)) (gt_tup (gts_cons gt_name (gts_cons gt_name (gts_cons gt_name gts_nil)))) ((sk_seq (sk_set (gk_call (ak_cons gk_var (ak_cons (gk_tup (ak_cons gk_int (ak_cons gk_var ak_nil))) ak_nil))))
    (sk_seq (sk_if (tk_not (tk_truK (gk_call (ak_cons gk_var (ak_cons gk_var ak_nil))))) (sk_set (gk_call (ak_cons (gk_call (ak_cons gk_var (ak_cons gk_var (ak_cons gk_var ak_nil)))) (ak_cons gk_var ak_nil)))) sk_next)
    (sk_if (tk_not (tk_truK (gk_call (ak_cons gk_var (ak_cons gk_var ak_nil))))) (sk_set (gk_call (ak_cons (gk_call (ak_cons gk_var (ak_cons gk_var (ak_cons (gk_call (ak_cons (gk_c T.NOUGHT.d) (ak_cons gk_var ak_nil))) ak_nil)))) (ak_cons gk_var ak_nil)))) sk_next))) : SOk K _ b_piece_2))
    (sk_ret (gk_cb cd_tuple (ak_cons gk_var ak_nil)))))) : SOk K _ b_piece)
theorem sc_kernel : FnScope nm_kernel pm_kernel (defScope s_kernel) := ⟨rfl, rfl, rfl, by decide +kernel, rfl, by decide +kernel, by decide +kernel⟩
theorem bi_kernel (T : Txt K mg) : Binds K T.kernel.fd pm_kernel [] := T.kernel.F.binds fun _ _ _ _ _ _ us hl => by obtain ⟨_, _, rfl⟩ := len2 hl; rfl
theorem ok_kernel (T : Txt K mg) : FnOk P w K mg base CX0 7 T.kernel.f T.kernel.fd pm_kernel (spF K r_kernel) := by
  have nd := sc_kernel.nd
  refine data_F T.kernel.F sc_kernel fun cdv A outer s H E hr => ?_
  refine ⟨_, (pss_cons (ps_set (i := 2) nd rfl (Or.inl rfl) (pe_call (ok_knots_of T) (hr.mono (by decide)) rfl T.knots_of.m T.knots_of.F.kp (bi_knots_of T) .nil pass0 (pa_cons (pv 0) pa_nil)))
    (pss_one (ps_ret (pe_callTy (kcr_tuple (K := K) rfl) (by rfl) T.tuple (by decide +kernel) (pa_cons (pe_lc (own := [("start", 3), ("end", 4)]) rfl nd (kpi_zipA (K := K) rfl rfl T.zip (pa_cons (pv 2) (pa_cons (pe_slice (ksl_B (K := K) rfl) (pv 2) (po_some pe_int) po_none) pa_nil))) (blkOk_by (N := nm_kernel) (sc := defScope s_kernel) (by decide +kernel)) (fun _ _ _ _ _ => (kpg_tup (K := K) (n := 2) rfl rfl (pgs_cons (pg_name (i := 3) nd rfl (Or.inl rfl)) (pgs_cons (pg_name (i := 4) nd rfl (Or.inl rfl)) pgs_nil)))) (fun _ _ _ _ _ => pts_nil) (fun _ _ _ _ _ => (pe_tup (pa_cons (pv 3) (pa_cons (pv 4) (pa_cons (pe_call (ok_piece T) (hr.mono (by decide)) rfl T.piece.m T.piece.F.kp (bi_piece T) .nil pass0 (pa_cons (pv 0) (pa_cons (pv 1) (pa_cons (pv 3) (pa_cons (pv 4) pa_nil))))) pa_nil)))))) pa_nil))))), ?_⟩
  exact ((sk_seq (sk_set (gk_call (ak_cons gk_var ak_nil)))
    (sk_ret (gk_cb cd_tuple (ak_cons (gk_lc (ik_zipA (ak_cons gk_var (ak_cons (gk_sl sd_B gk_var (pk_some gk_int) pk_none) ak_nil))) (gt_tup (gts_cons gt_name (gts_cons gt_name gts_nil))) tk_yes (gk_tup (ak_cons gk_var (ak_cons gk_var (ak_cons (gk_call (ak_cons gk_var (ak_cons gk_var (ak_cons gk_var (ak_cons gk_var ak_nil))))) ak_nil)))) (by decide)) ak_nil)))) : SOk K _ b_kernel)
theorem sc_never_below : FnScope nm_never_below pm_never_below (defScope s_never_below) := ⟨rfl, rfl, rfl, by decide +kernel, rfl, by decide +kernel, by decide +kernel⟩
theorem bi_never_below (T : Txt K mg) : Binds K T.never_below.fd pm_never_below [] := T.never_below.F.binds fun _ _ _ _ _ _ us hl => by obtain ⟨_, _, rfl⟩ := len2 hl; rfl
theorem ok_never_below (T : Txt K mg) : FnOk P w K mg base CX0 9 T.never_below.f T.never_below.fd pm_never_below (spF K r_never_below) := by
  have nd := sc_never_below.nd
  refine data_F T.never_below.F sc_never_below fun cdv A outer s H E hr => ?_
  refine ⟨_, (pss_cons (ps_if (pt_cmpR (kop_eq (K := K) rfl hr.units) (pv 1) pe_int (nomark _)) (pss_cons (ps_set (i := 2) nd rfl (Or.inl rfl) (pe_lst (kpa_star (K := K) rfl (pe_lc (own := [("point", 3), ("weight", 4)]) rfl nd (kpi_seq (K := K) rfl (kpe_fld (K := K) rfl (pv 0) rfl)) (blkOk_by (N := nm_never_below) (sc := defScope s_never_below) (by decide +kernel)) (fun _ _ _ _ _ => (kpg_tup (K := K) (n := 2) rfl rfl (pgs_cons (pg_name (i := 3) nd rfl (Or.inl rfl)) (pgs_cons (pg_name (i := 4) nd rfl (Or.inl rfl)) pgs_nil)))) (fun _ _ _ _ _ => pts_nil) (fun _ _ _ _ _ => (pv 4))) (kpa_star (K := K) rfl (pe_lc (own := [("start", 5), ("end", 6), ("share", 7)]) rfl nd (kpi_seq (K := K) rfl (kpe_fld (K := K) rfl (pv 0) rfl)) (blkOk_by (N := nm_never_below) (sc := defScope s_never_below) (by decide +kernel)) (fun _ _ _ _ _ => (kpg_tup (K := K) (n := 3) rfl rfl (pgs_cons (pg_name (i := 5) nd rfl (Or.inl rfl)) (pgs_cons (pg_name (i := 6) nd rfl (Or.inl rfl)) (pgs_cons (pg_name (i := 7) nd rfl (Or.inl rfl)) pgs_nil))))) (fun _ _ _ _ _ => pts_nil) (fun _ _ _ _ _ => (pv 7))) pa_nil))))
    (pss_one (ps_ret (pe_callB (kcr_all (K := K) rfl rfl) (by rfl) T.all (by decide +kernel) (pa_cons (pe_lc (own := [("one", 8)]) rfl nd (kpi_seq (K := K) rfl (pv 2)) (blkOk_by (N := nm_never_below) (sc := defScope s_never_below) (by decide +kernel)) (fun _ _ _ _ _ => (pg_name (i := 8) nd rfl (Or.inl rfl))) (fun _ _ _ _ _ => pts_nil) (fun _ _ _ _ _ => (pe_cmpR op_gt (pe_ix (kix (K := K) rfl) (pv 8) pe_int (fun _ _ => rfl)) pe_int (nomark _)))) pa_nil))))) pss_nil)
    (pss_cons (ps_if (pt_not (kpt_tru (K := K) rfl (pe_call (ok_is_exact_enough T) (hr.mono (by decide)) rfl T.is_exact_enough.m T.is_exact_enough.F.kp (bi_is_exact_enough T) .nil pass0 (pa_cons (pv 0) (pa_cons (pv 1) pa_nil))) (by intro _; rfl))) (pss_one (ps_ret pe_bl)) pss_nil)
    (pss_one (ps_ret (pe_callB (kcr_all (K := K) rfl rfl) (by rfl) T.all (by decide +kernel) (pa_cons (pe_lc (own := [("start", 5), ("end", 6), ("powers", 9)]) rfl nd (kpi_seq (K := K) rfl (pe_call (ok_kernel T) (hr.mono (by decide)) rfl T.kernel.m T.kernel.F.kp (bi_kernel T) .nil pass0 (pa_cons (pv 0) (pa_cons (pv 1) pa_nil)))) (blkOk_by (N := nm_never_below) (sc := defScope s_never_below) (by decide +kernel)) (fun _ _ _ _ _ => (kpg_tup (K := K) (n := 3) rfl rfl (pgs_cons (pg_name (i := 5) nd rfl (Or.inl rfl)) (pgs_cons (pg_name (i := 6) nd rfl (Or.inl rfl)) (pgs_cons (pg_name (i := 9) nd rfl (Or.inl rfl)) pgs_nil))))) (fun _ _ _ _ _ => pts_nil) (fun _ _ _ _ _ => (pe_call (ok_is_nowhere_below T) (hr.mono (by decide)) rfl T.is_nowhere_below.m T.is_nowhere_below.F.kp (bi_is_nowhere_below T) .nil pass0 (pa_cons (pe_call (ok_integers_of T) (hr.mono (by decide)) rfl T.integers_of.m T.integers_of.F.kp (bi_integers_of T) .nil pass0 (pa_cons (pv 9) pa_nil)) (pa_cons (pv 5) (pa_cons (pv 6) pa_nil)))))) pa_nil)))))), ?_⟩
  exact ((sk_seq (sk_if (tk_test (gk_op od_eq gk_var gk_int)) (sk_seq (sk_set (gk_lst (ak_star (gk_lc (ik_seq (gk_fld T.Rule rfl gk_var)) (gt_tup (gts_cons gt_name (gts_cons gt_name gts_nil))) tk_yes gk_var (by decide)) (ak_star (gk_lc (ik_seq (gk_fld T.Rule rfl gk_var)) (gt_tup (gts_cons gt_name (gts_cons gt_name (gts_cons gt_name gts_nil)))) tk_yes gk_var (by decide)) ak_nil))))
    (sk_ret (gk_cb cd_all (ak_cons (gk_lc (ik_seq gk_var) gt_name tk_yes (gk_op od_gt (gk_op od_ix gk_var gk_int) gk_int) (by decide)) ak_nil)))) sk_next)
    (sk_seq (sk_if (tk_not (tk_truK (gk_call (ak_cons gk_var (ak_cons gk_var ak_nil))))) (sk_ret gk_bl) sk_next)
    (sk_ret (gk_cb cd_all (ak_cons (gk_lc (ik_seq (gk_call (ak_cons gk_var (ak_cons gk_var ak_nil)))) (gt_tup (gts_cons gt_name (gts_cons gt_name (gts_cons gt_name gts_nil)))) tk_yes (gk_call (ak_cons (gk_call (ak_cons gk_var ak_nil)) (ak_cons gk_var (ak_cons gk_var ak_nil)))) (by decide)) ak_nil))))) : SOk K _ b_never_below)
theorem sc_compare : FnScope nm_compare pm_compare (defScope s_compare) := ⟨rfl, rfl, rfl, by decide +kernel, rfl, by decide +kernel, by decide +kernel⟩
theorem bi_compare (T : Txt K mg) : Binds K T.compare.fd pm_compare [] := T.compare.F.binds fun _ _ _ _ _ _ us hl => by obtain ⟨_, _, _, rfl⟩ := len3 hl; rfl
theorem kb_compare_1 (T : Txt K mg) : KBn K T.compare.fd pm_compare 0 ["n", "other", "one"] (fun us ws => pick [2, 1, 0] (us ++ (ws ++ []))) (fun vs zs => pick [2, 1, 0] (vs ++ (zs ++ []))) :=
  kb_F T.compare.F 0 _ _ fun _ _ _ _ _ _ us ws h1 h2 => by obtain ⟨rfl⟩ := ln0 h1; obtain ⟨_, _, _, rfl⟩ := ln3 h2; rfl
theorem ok_compare (T : Txt K mg) : FnOk P w K mg base CX0 10 T.compare.f T.compare.fd pm_compare (spF K r_compare) := by
  have nd := sc_compare.nd
  refine data_F T.compare.F sc_compare fun cdv A outer s H E hr => ?_
  refine ⟨_, (pss_cons (ps_set (i := 3) nd rfl (Or.inl rfl) (pe_op (OpR.or op_subA (op_bin (E := E0) T.sf_Rule T.Rule_sub.m.at_ T.Rule_sub.m.fn (ok_Rule_sub T) (hr.mono (by decide)) (bi_Rule_sub T) pass0)) (pv 0) (pv 1)))
    (pss_cons (ps_if (pt_cmpR (OpR.or (kop_eq (K := K) rfl hr.units) (op_eqO (E := E0) T.Rule_eq.m.at_ T.Rule_eq.m.fn T.nf_Rule (ok_Rule_eq T) (hr.mono (by decide)) (bi_Rule_eq T) pass0)) (pv 0) (pv 1) (nomark _)) (pss_one (ps_ret pe_str)) pss_nil)
    (pss_cons (ps_if (kpt_tru (K := K) rfl (pe_call (ok_never_below T) (hr.mono (by decide)) rfl T.never_below.m T.never_below.F.kp (bi_never_below T) .nil pass0 (pa_cons (pe_un (un_or un_neg (un_own (E := E0) T.Rule_neg.m.at_ T.Rule_neg.m.fn (ok_Rule_neg T) (hr.mono (by decide)) (bi_Rule_neg T) pass0)) (pv 3)) (pa_cons (pv 2) pa_nil))) (by intro _; rfl)) (pss_one (ps_ret pe_str)) pss_nil)
    (pss_one (ps_ret (pe_ifExp (kpt_tru (K := K) rfl (pe_call (ok_never_below T) (hr.mono (by decide)) rfl T.never_below.m T.never_below.F.kp (bi_never_below T) .nil pass0 (pa_cons (pv 3) (pa_cons (pv 2) pa_nil))) (by intro _; rfl)) pe_str pe_str)))))), ?_⟩
  exact ((sk_seq (sk_set (gk_op (od_own T.Rule.at_ od_sub) gk_var gk_var))
    (sk_seq (sk_if (tk_test (gk_op (od_own T.Rule.at_ od_eq) gk_var gk_var)) (sk_ret gk_str) sk_next)
    (sk_seq (sk_if (tk_truK (gk_call (ak_cons (gk_un (ud_own T.Rule.at_ ud_neg) gk_var) (ak_cons gk_var ak_nil)))) (sk_ret gk_str) sk_next)
    (sk_ret (gk_if (tk_truK (gk_call (ak_cons gk_var (ak_cons gk_var ak_nil)))) gk_str gk_str))))) : SOk K _ b_compare)
theorem sc_need : FnScope nm_need pm_need (defScope s_need) := ⟨rfl, rfl, rfl, by decide +kernel, rfl, by decide +kernel, by decide +kernel⟩
theorem bi_need (T : Txt K mg) : Binds K T.need.fd pm_need [] := T.need.F.binds fun _ _ _ _ _ _ us hl => by obtain ⟨_, rfl⟩ := len1 hl; rfl
theorem ok_need (T : Txt K mg) : FnOk P w K mg base CX0 1 T.need.f T.need.fd pm_need (spF K r_need) := by
  have nd := sc_need.nd
  refine data_F T.need.F sc_need fun cdv A outer s H E hr => ?_
  refine ⟨_, (pss_one (ps_if (pt_not (kpt_tru (K := K) rfl (pv 0) (by intro _; rfl))) (pss_one ps_never) pss_nil)), ?_⟩
  exact ((sk_if (tk_not (tk_truK gk_var)) sk_never sk_next) : SOk K _ b_need)
theorem sc_Desk_answer : FnScope nm_Desk_answer pm_Desk_answer (defScope s_Desk_answer) := ⟨rfl, rfl, rfl, by decide +kernel, rfl, by decide +kernel, by decide +kernel⟩
theorem bi_Desk_answer (T : Txt K mg) : Binds K T.Desk_answer.fd pm_Desk_answer [] := T.Desk_answer.F.binds fun _ _ _ _ _ _ us hl => by obtain ⟨_, _, _, rfl⟩ := len3 hl; rfl
theorem ok_Desk_answer (T : Txt K mg) : FnOk P w K mg base CX0 11 T.Desk_answer.f T.Desk_answer.fd pm_Desk_answer (spB K r_Desk_answer) := by
  have nd := sc_Desk_answer.nd
  refine data_B T.Desk_answer.F sc_Desk_answer fun cdv A outer s H E hr => ?_
  refine ⟨_, (pss_cons (ps_if (pt_cmpR (kop_eq (K := K) rfl hr.units) (pv 1) pe_str (nomark _)) (pss_cons (ps_expr (pe_call (ok_need T) (hr.mono (by decide)) rfl T.need.m T.need.F.kp (bi_need T) .nil pass0 (pa_cons (pe_and (pe_cmpR (kop_eq (K := K) rfl hr.units) (pe_callB (kcr_len (K := K) rfl) (by rfl) T.len (by decide +kernel) (pa_cons (pv 2) pa_nil)) pe_int (nomark _)) (pe_and (pe_meth (pv 0) T.Desk.cls T.Desk_has.m (ok_Desk_has T) (hr.mono (by decide)) (bi_Desk_has T) .nil pass0 (pa_cons (pe_slice (ksl_B (K := K) rfl) (pv 2) po_none (po_some pe_int)) pa_nil)) (pe_one (pe_cmpR (kop_inB (K := K) rfl (r70 hr)) (pe_ix (kix (K := K) rfl) (pv 2) pe_int (fun _ _ => rfl)) (pe_glob rfl T.KINDS.m T.KINDS.r) (by rfl))))) pa_nil)))
    (pss_one (ps_ret (pe_call (ok_compare T) (hr.mono (by decide)) rfl T.compare.m T.compare.F.kp (bi_compare T) .nil pass0 (pa_cons (pe_dget (r1h hr) (kpe_fld (K := K) rfl (pv 0) rfl) (pe_ix (kix (K := K) rfl) (pv 2) pe_int (fun _ _ => rfl)) (fun _ _ => rfl)) (pa_cons (pe_dget (r1h hr) (kpe_fld (K := K) rfl (pv 0) rfl) (pe_ix (kix (K := K) rfl) (pv 2) pe_int (fun _ _ => rfl)) (fun _ _ => rfl)) (pa_cons (pe_callTy (cr_or cr_int call_int_str) (by rfl) T.int (by decide +kernel) (pa_cons (pe_ix (kix (K := K) rfl) (pv 2) pe_int (fun _ _ => rfl)) pa_nil)) pa_nil))))))) pss_nil)
    (pss_cons (ps_if (pt_cmpR (kop_eq (K := K) rfl hr.units) (pv 1) pe_str (nomark _)) (pss_cons (ps_expr (pe_call (ok_need T) (hr.mono (by decide)) rfl T.need.m T.need.F.kp (bi_need T) .nil pass0 (pa_cons (pe_and (pe_cmpR (kop_eq (K := K) rfl hr.units) (pe_callB (kcr_len (K := K) rfl) (by rfl) T.len (by decide +kernel) (pa_cons (pv 2) pa_nil)) pe_int (nomark _)) (pe_and (pe_meth (pv 0) T.Desk.cls T.Desk_has.m (ok_Desk_has T) (hr.mono (by decide)) (bi_Desk_has T) .nil pass0 (pa_cons (pe_slice (ksl_B (K := K) rfl) (pv 2) po_none (po_some pe_int)) pa_nil)) (pe_one (pe_cmpR (kop_inB (K := K) rfl (r70 hr)) (pe_ix (kix (K := K) rfl) (pv 2) pe_int (fun _ _ => rfl)) (pe_glob rfl T.KINDS.m T.KINDS.r) (by rfl))))) pa_nil)))
    (pss_one (ps_ret (pe_ifExp (kpt_tru (K := K) rfl (pe_call (ok_never_below T) (hr.mono (by decide)) rfl T.never_below.m T.never_below.F.kp (bi_never_below T) .nil pass0 (pa_cons (pe_dget (r1h hr) (kpe_fld (K := K) rfl (pv 0) rfl) (pe_ix (kix (K := K) rfl) (pv 2) pe_int (fun _ _ => rfl)) (fun _ _ => rfl)) (pa_cons (pe_callTy (cr_or cr_int call_int_str) (by rfl) T.int (by decide +kernel) (pa_cons (pe_ix (kix (K := K) rfl) (pv 2) pe_int (fun _ _ => rfl)) pa_nil)) pa_nil))) (by intro _; rfl)) pe_str pe_str)))) pss_nil)
    (pss_cons (ps_expr (pe_call (ok_need T) (hr.mono (by decide)) rfl T.need.m T.need.F.kp (bi_need T) .nil pass0 (pa_cons (pe_and (pe_cmpR (kop_inB (K := K) rfl (r70 hr)) (pv 1) (pe_tup (pa_cons pe_str (pa_cons pe_str pa_nil))) (by rfl)) (pe_and (pe_cmpR (kop_eq (K := K) rfl hr.units) (pe_callB (kcr_len (K := K) rfl) (by rfl) T.len (by decide +kernel) (pa_cons (pv 2) pa_nil)) pe_int (nomark _)) (pe_one (pe_meth (pv 0) T.Desk.cls T.Desk_has.m (ok_Desk_has T) (hr.mono (by decide)) (bi_Desk_has T) .nil pass0 (pa_cons (pv 2) pa_nil))))) pa_nil)))
    (pss_cons (ps_if (pt_cmpR (kop_eq (K := K) rfl hr.units) (pv 1) pe_str (nomark _)) pss_never pss_nil)
    (pss_cons (ps_set (i := 3) nd rfl (Or.inl rfl) (pe_call (ok_degree T) (hr.mono (by decide)) rfl T.degree.m T.degree.F.kp (bi_degree T) .nil pass0 (pa_cons (pe_dget (r1h hr) (kpe_fld (K := K) rfl (pv 0) rfl) (pe_ix (kix (K := K) rfl) (pv 2) pe_int (fun _ _ => rfl)) (fun _ _ => rfl)) pa_nil)))
    (pss_one (ps_ret (pe_ifExp (pt_cmpR op_isA (pv 3) pe_non (nomark _)) pe_str (pe_callTy cr_str (by rfl) T.str (by decide +kernel) (pa_cons (pv 3) pa_nil)))))))))), ?_⟩
  exact ((sk_seq (sk_if (tk_test (gk_op od_eq gk_var gk_str)) (sk_seq (sk_drop (gk_call (ak_cons (gk_vand (gk_op od_eq (gk_cb cd_len (ak_cons gk_var ak_nil)) gk_int) (gk_vand (gk_methB (nm := "has") T.Desk (by decide +kernel) (ak_cons (gk_sl sd_B gk_var pk_none (pk_some gk_int)) ak_nil)) (gk_op od_inB (gk_op od_ix gk_var gk_int) (gk_c T.KINDS.d)))) ak_nil)))
    (sk_ret (gk_call (ak_cons (gk_dget (gk_fldv T.Desk rfl) (gk_op od_ix gk_var gk_int)) (ak_cons (gk_dget (gk_fldv T.Desk rfl) (gk_op od_ix gk_var gk_int)) (ak_cons (gk_cb cd_intS (ak_cons (gk_op od_ix gk_var gk_int) ak_nil)) ak_nil)))))) sk_next)
    (sk_seq (sk_if (tk_test (gk_op od_eq gk_var gk_str)) (sk_seq (sk_drop (gk_call (ak_cons (gk_vand (gk_op od_eq (gk_cb cd_len (ak_cons gk_var ak_nil)) gk_int) (gk_vand (gk_methB (nm := "has") T.Desk (by decide +kernel) (ak_cons (gk_sl sd_B gk_var pk_none (pk_some gk_int)) ak_nil)) (gk_op od_inB (gk_op od_ix gk_var gk_int) (gk_c T.KINDS.d)))) ak_nil)))
    (sk_ret (gk_if (tk_truK (gk_call (ak_cons (gk_dget (gk_fldv T.Desk rfl) (gk_op od_ix gk_var gk_int)) (ak_cons (gk_cb cd_intS (ak_cons (gk_op od_ix gk_var gk_int) ak_nil)) ak_nil)))) gk_str gk_str))) sk_next)
    (sk_seq (sk_drop (gk_call (ak_cons (gk_vand (gk_op od_inB gk_var (gk_tup (ak_cons gk_str (ak_cons gk_str ak_nil)))) (gk_vand (gk_op od_eq (gk_cb cd_len (ak_cons gk_var ak_nil)) gk_int) (gk_methB (nm := "has") T.Desk (by decide +kernel) (ak_cons gk_var ak_nil)))) ak_nil)))
    (sk_seq (sk_if (tk_test (gk_op od_eq gk_var gk_str)) sk_never sk_next)
    (sk_seq (sk_set (gk_call (ak_cons (gk_dget (gk_fldv T.Desk rfl) (gk_op od_ix gk_var gk_int)) ak_nil)))
    (sk_ret (gk_if (tk_test (gk_op od_is gk_var gk_non)) gk_str (gk_cb cd_str (ak_cons gk_var ak_nil))))))))) : SOk K _ b_Desk_answer)
theorem sc_shown_text : FnScope nm_shown_text pm_shown_text (defScope s_shown_text) := ⟨rfl, rfl, rfl, by decide +kernel, rfl, by decide +kernel, by decide +kernel⟩
theorem bi_shown_text (T : Txt K mg) : Binds K T.shown_text.fd pm_shown_text [] := T.shown_text.F.binds fun _ _ _ _ _ _ us hl => by obtain ⟨_, rfl⟩ := len1 hl; rfl
theorem ok_shown_text (T : Txt K mg) : FnOk P w K mg base CX0 5 T.shown_text.f T.shown_text.fd pm_shown_text (spF K r_shown_text) := by
  have nd := sc_shown_text.nd
  refine data_FT T.shown_text.F sc_shown_text (by decide +kernel) (by decide) fun cdv A outer s H E hr => ?_
  refine ⟨_, (CwR.psst_one (CwR.pst_ret (CwR.pet_replC (pe_callTy (cr_or cr_str (cr_strO (E := E0) T.Rule_str.m.at_ T.Rule_str.m.fn (ok_Rule_str T) (hr.mono (by decide)) (bi_Rule_str T) pass0)) (by rfl) T.str (by decide +kernel) (pa_cons (pv 0) pa_nil))))), ?_⟩
  exact ((sk_ret (gk_repl (gk_cb (cd_strO T.Rule.at_) (ak_cons gk_var ak_nil)))) : SOk K _ b_shown_text)
theorem sc_Desk_keep : FnScope nm_Desk_keep pm_Desk_keep (defScope s_Desk_keep) := ⟨rfl, rfl, rfl, by decide +kernel, rfl, by decide +kernel, by decide +kernel⟩
theorem bi_Desk_keep (T : Txt K mg) : Binds K T.Desk_keep.fd pm_Desk_keep [] := T.Desk_keep.F.binds fun _ _ _ _ _ _ us hl => by obtain ⟨_, _, _, rfl⟩ := len3 hl; rfl
theorem ok_Desk_keep (T : Txt K mg) : FnOk P w K mg base CX0 6 T.Desk_keep.f T.Desk_keep.fd pm_Desk_keep (spB K r_Desk_keep) := by
  have nd := sc_Desk_keep.nd
  refine data_B T.Desk_keep.F sc_Desk_keep fun cdv A outer s H E hr => ?_
  refine ⟨_, (pss_cons (kps_fld (K := K) rfl (pv 0) (pe_dmrg (kpe_fld (K := K) rfl (pv 0) rfl) (pv 1) (pv 2)) rfl)
    (pss_one (ps_ret (pe_call (ok_shown_text T) (hr.mono (by decide)) rfl T.shown_text.m T.shown_text.F.kp (bi_shown_text T) .nil pass0 (pa_cons (pv 2) pa_nil))))), ?_⟩
  exact ((sk_seq (sk_setf T.Desk rfl (gk_dmrg (gk_fldv T.Desk rfl) gk_var gk_var))
    (sk_ret (gk_call (ak_cons gk_var ak_nil)))) : SOk K _ b_Desk_keep)
theorem sc_number_in : FnScope nm_number_in pm_number_in (defScope s_number_in) := ⟨rfl, rfl, rfl, by decide +kernel, rfl, by decide +kernel, by decide +kernel⟩
theorem bi_number_in (T : Txt K mg) : Binds K T.number_in.fd pm_number_in [] := T.number_in.F.binds fun _ _ _ _ _ _ us hl => by obtain ⟨_, rfl⟩ := len1 hl; rfl
theorem ok_number_in (T : Txt K mg) : FnOk P w K mg base CX0 1 T.number_in.f T.number_in.fd pm_number_in (spF K r_number_in) := by
  have nd := sc_number_in.nd
  refine data_F T.number_in.F sc_number_in fun cdv A outer s H E hr => ?_
  refine ⟨_, (pss_cons (ps_if (PW.pt (pw_or (pt_not (pt_chain op_le op_le pe_int (pe_callB (kcr_len (K := K) rfl) (by rfl) T.len (by decide +kernel) (pa_cons (pv 0) pa_nil)) (pe_glob rfl T.MOST_DIGITS.m T.MOST_DIGITS.r))) (pw_or1 (pt_not (kpt_tru (K := K) rfl (pe_callB (kcr_all (K := K) rfl rfl) (by rfl) T.all (by decide +kernel) (pa_cons (pe_lc (own := [("sign", 1)]) rfl nd (pi_str (pv 0)) (blkOk_by (N := nm_number_in) (sc := defScope s_number_in) (by decide +kernel)) (fun _ _ _ _ _ => (pg_name (i := 1) nd rfl (Or.inl rfl))) (fun _ _ _ _ _ => pts_nil) (fun _ _ _ _ _ => (pe_cmpR (kop_inB (K := K) rfl (r70 hr)) (pv 1) (pe_glob rfl T.DIGITS.m T.DIGITS.r) (by rfl)))) pa_nil)) (by intro _; rfl)))))) (pss_one (ps_ret pe_non)) pss_nil)
    (pss_one (ps_ret (pe_ifExp (PW.pt (pw_and (pt_cmpR (kop_eq (K := K) rfl hr.units) (pe_ix (kix (K := K) rfl) (pv 0) pe_int (fun _ _ => rfl)) pe_str (nomark _)) (pw_and1 (pt_cmpR (kop_ne (K := K) rfl hr.units) (pv 0) pe_str (nomark _))))) pe_non (pe_callTy (cr_or cr_int call_int_str) (by rfl) T.int (by decide +kernel) (pa_cons (pv 0) pa_nil)))))), ?_⟩
  exact ((sk_seq (sk_if (tk_or (tk_not (tk_test (gk_chain od_le od_le gk_int (gk_cb cd_len (ak_cons gk_var ak_nil)) (gk_c T.MOST_DIGITS.d)))) (tk_not (tk_truK (gk_cb cd_all (ak_cons (gk_lc (ik_strI gk_var) gt_name tk_yes (gk_op od_inB gk_var (gk_c T.DIGITS.d)) (by decide)) ak_nil))))) (sk_ret gk_non) sk_next)
    (sk_ret (gk_if (tk_and (tk_test (gk_op od_eq (gk_op od_ix gk_var gk_int) gk_str)) (tk_test (gk_op od_ne gk_var gk_str))) gk_non (gk_cb cd_intS (ak_cons gk_var ak_nil))))) : SOk K _ b_number_in)
theorem sc_value_in : FnScope nm_value_in pm_value_in (defScope s_value_in) := ⟨rfl, rfl, rfl, by decide +kernel, rfl, by decide +kernel, by decide +kernel⟩
theorem bi_value_in (T : Txt K mg) : Binds K T.value_in.fd pm_value_in [] := T.value_in.F.binds fun _ _ _ _ _ _ us hl => by obtain ⟨_, rfl⟩ := len1 hl; rfl
theorem ok_value_in (T : Txt K mg) : FnOk P w K mg base CX0 2 T.value_in.f T.value_in.fd pm_value_in (spF K r_value_in) := by
  have nd := sc_value_in.nd
  refine data_F T.value_in.F sc_value_in fun cdv A outer s H E hr => ?_
  refine ⟨_, (pss_cons (ps_set (i := 1) nd rfl (Or.inl rfl) (pe_ifExp (pt_cmpR (kop_eq (K := K) rfl hr.units) (pe_slice (ksl_B (K := K) rfl) (pv 0) po_none (po_some pe_int)) pe_str (nomark _)) (pe_split (pe_slice (ksl_B (K := K) rfl) (pv 0) (po_some pe_int) po_none) pe_str) (pe_split (pv 0) pe_str)))
    (pss_cons (ps_setLc (i := 2) (own := [("part", 5)]) rfl nd rfl rfl (sw_true rfl rfl rfl (by decide +kernel)) (kpi_seq (K := K) rfl (pv 1)) (blkOk_by (N := nm_value_in) (sc := defScope s_value_in) (by decide +kernel)) (fun _ _ _ _ _ => (pg_name (i := 5) nd rfl (Or.inl rfl))) (fun _ _ _ _ _ => pts_nil) (fun _ _ _ _ _ => (pe_call (ok_number_in T) (hr.mono (by decide)) rfl T.number_in.m T.number_in.F.kp (bi_number_in T) .nil pass0 (pa_cons (pv 5) pa_nil))))
    (pss_cons (ps_if (PW.pt (pw_or (pt_cmpR op_gt (pe_callB (kcr_len (K := K) rfl) (by rfl) T.len (by decide +kernel) (pa_cons (pv 2) pa_nil)) pe_int (nomark _)) (pw_or1 (kpt_tru (K := K) rfl (pe_callB (kcr_any (K := K) rfl rfl) (by rfl) T.any (by decide +kernel) (pa_cons (pe_lc (own := [("number", 6)]) rfl nd (kpi_seq (K := K) rfl (pv 2)) (blkOk_by (N := nm_value_in) (sc := defScope s_value_in) (by decide +kernel)) (fun _ _ _ _ _ => (pg_name (i := 6) nd rfl (Or.inl rfl))) (fun _ _ _ _ _ => pts_nil) (fun _ _ _ _ _ => (pe_cmpR op_isA (pv 6) pe_non (nomark _)))) pa_nil)) (by intro _; rfl))))) (pss_one (ps_ret pe_non)) pss_nil)
    (pss_cons (ps_par (i := 3) (j := 4) rfl nd rfl rfl (by decide) rfl rfl (pa_cons (pe_ix (kix (K := K) rfl) (pv 2) pe_int (fun _ _ => rfl)) (pa_cons (pe_ifExp (pt_cmpR (kop_eq (K := K) rfl hr.units) (pe_callB (kcr_len (K := K) rfl) (by rfl) T.len (by decide +kernel) (pa_cons (pv 2) pa_nil)) pe_int (nomark _)) (pe_ix (kix (K := K) rfl) (pv 2) pe_int (fun _ _ => rfl)) pe_int) pa_nil)) (by rfl))
    (pss_cons (ps_if (PW.pt (pw_or (pt_cmpR (kop_eq (K := K) rfl hr.units) (pv 4) pe_int (nomark _)) (pw_or (PW.pt (pw_and (pt_cmpR (kop_eq (K := K) rfl hr.units) (pe_callB (kcr_len (K := K) rfl) (by rfl) T.len (by decide +kernel) (pa_cons (pv 2) pa_nil)) pe_int (nomark _)) (pw_and1 (pt_cmpR (kop_eq (K := K) rfl hr.units) (pv 4) pe_int (nomark _))))) (pw_or1 (pt_cmpR (kop_ne (K := K) rfl hr.units) (pe_call (ok_divisor T) (hr.mono (by decide)) rfl T.divisor.m T.divisor.F.kp (bi_divisor T) .nil pass0 (pa_cons (pv 3) (pa_cons (pv 4) pa_nil))) pe_int (nomark _)))))) (pss_one (ps_ret pe_non)) pss_nil)
    (pss_cons (ps_if (pt_cmpR (kop_ne (K := K) rfl hr.units) (pe_slice (ksl_B (K := K) rfl) (pv 0) po_none (po_some pe_int)) pe_str (nomark _)) (pss_one (ps_ret (pe_tup (pa_cons (pv 3) (pa_cons (pv 4) pa_nil))))) pss_nil)
    (pss_one (ps_ret (pe_ifExp (pt_cmpR (kop_eq (K := K) rfl hr.units) (pv 3) pe_int (nomark _)) pe_non (pe_tup (pa_cons (pe_un un_neg (pv 3)) (pa_cons (pv 4) pa_nil)))))))))))), ?_⟩
  exact ((sk_seq (sk_set (gk_if (tk_test (gk_op od_eq (gk_sl sd_B gk_var pk_none (pk_some gk_int)) gk_str)) (gk_split (gk_sl sd_B gk_var (pk_some gk_int) pk_none) gk_str) (gk_split gk_var gk_str)))
    (sk_seq (sk_set (gk_lc (ik_seq gk_var) gt_name tk_yes (gk_call (ak_cons gk_var ak_nil)) (by decide)))
    (sk_seq (sk_if (tk_or (tk_test (gk_op od_gt (gk_cb cd_len (ak_cons gk_var ak_nil)) gk_int)) (tk_truK (gk_cb cd_any (ak_cons (gk_lc (ik_seq gk_var) gt_name tk_yes (gk_op od_is gk_var gk_non) (by decide)) ak_nil)))) (sk_ret gk_non) sk_next)
    (sk_seq (sk_ypar (yk_cons (gk_op od_ix gk_var gk_int) (yk_cons (gk_if (tk_test (gk_op od_eq (gk_cb cd_len (ak_cons gk_var ak_nil)) gk_int)) (gk_op od_ix gk_var gk_int) gk_int) yk_nil)))
    (sk_seq (sk_if (tk_or (tk_test (gk_op od_eq gk_var gk_int)) (tk_or (tk_and (tk_test (gk_op od_eq (gk_cb cd_len (ak_cons gk_var ak_nil)) gk_int)) (tk_test (gk_op od_eq gk_var gk_int))) (tk_test (gk_op od_ne (gk_call (ak_cons gk_var (ak_cons gk_var ak_nil))) gk_int)))) (sk_ret gk_non) sk_next)
    (sk_seq (sk_if (tk_test (gk_op od_ne (gk_sl sd_B gk_var pk_none (pk_some gk_int)) gk_str)) (sk_ret (gk_tup (ak_cons gk_var (ak_cons gk_var ak_nil)))) sk_next)
    (sk_ret (gk_if (tk_test (gk_op od_eq gk_var gk_int)) gk_non (gk_tup (ak_cons (gk_un ud_neg gk_var) (ak_cons gk_var ak_nil))))))))))) : SOk K _ b_value_in)
theorem sc_words_in : FnScope nm_words_in pm_words_in (defScope s_words_in) := ⟨rfl, rfl, rfl, by decide +kernel, rfl, by decide +kernel, by decide +kernel⟩
theorem bi_words_in (T : Txt K mg) : Binds K T.words_in.fd pm_words_in [] := T.words_in.F.binds fun _ _ _ _ _ _ us hl => by obtain ⟨_, _, rfl⟩ := len2 hl; rfl
theorem ok_words_in (T : Txt K mg) : FnOk P w K mg base CX0 3 T.words_in.f T.words_in.fd pm_words_in (spF K r_words_in) := by
  have nd := sc_words_in.nd
  refine data_F T.words_in.F sc_words_in fun cdv A outer s H E hr => ?_
  refine ⟨_, (pss_cons (ps_set (i := 2) nd rfl (Or.inl rfl) (pe_split (pv 0) pe_str))
    (pss_cons (ps_set (i := 3) nd rfl (Or.inl rfl) (pe_ifExp (pt_cmpR (kop_eq (K := K) rfl hr.units) (pv 1) pe_int (nomark _)) (pe_disp (pps_cons pe_str pe_int pps_nil) (by rfl) (by rfl) (List.cons_ne_nil _ _) (by exact Nat.le_of_ble_eq_true rfl)) (pe_disp (pps_cons pe_str pe_int (pps_cons pe_str pe_int pps_nil)) (by rfl) (by rfl) (List.cons_ne_nil _ _) (by exact Nat.le_of_ble_eq_true rfl))))
    (pss_cons (ps_if (PW.pt (pw_or (pt_cmpR (op_dNotIn (r70 hr)) (pe_ix (kix (K := K) rfl) (pv 2) pe_int (fun _ _ => rfl)) (pv 3) (by rfl)) (pw_or1 (pt_cmpR (kop_ne (K := K) rfl hr.units) (pe_callB (kcr_len (K := K) rfl) (by rfl) T.len (by decide +kernel) (pa_cons (pv 2) pa_nil)) (pe_dget (r1h hr) (pv 3) (pe_ix (kix (K := K) rfl) (pv 2) pe_int (fun _ _ => rfl)) (fun _ _ => rfl)) (nomark _))))) (pss_one (ps_ret pe_non)) pss_nil)
    (pss_cons (ps_setLc (i := 4) (own := [("word", 5)]) rfl nd rfl rfl (sw_true rfl rfl rfl (by decide +kernel)) (kpi_seq (K := K) rfl (pe_slice (ksl_B (K := K) rfl) (pv 2) (po_some pe_int) po_none)) (blkOk_by (N := nm_words_in) (sc := defScope s_words_in) (by decide +kernel)) (fun _ _ _ _ _ => (pg_name (i := 5) nd rfl (Or.inl rfl))) (fun _ _ _ _ _ => pts_nil) (fun _ _ _ _ _ => (pe_call (ok_value_in T) (hr.mono (by decide)) rfl T.value_in.m T.value_in.F.kp (bi_value_in T) .nil pass0 (pa_cons (pv 5) pa_nil))))
    (pss_one (ps_ret (pe_ifExp (kpt_tru (K := K) rfl (pe_callB (kcr_any (K := K) rfl rfl) (by rfl) T.any (by decide +kernel) (pa_cons (pe_lc (own := [("value", 6)]) rfl nd (kpi_seq (K := K) rfl (pv 4)) (blkOk_by (N := nm_words_in) (sc := defScope s_words_in) (by decide +kernel)) (fun _ _ _ _ _ => (pg_name (i := 6) nd rfl (Or.inl rfl))) (fun _ _ _ _ _ => pts_nil) (fun _ _ _ _ _ => (pe_cmpR op_isA (pv 6) pe_non (nomark _)))) pa_nil)) (by intro _; rfl)) pe_non (pe_lst (pa_cons (pe_ix (kix (K := K) rfl) (pv 2) pe_int (fun _ _ => rfl)) (kpa_star (K := K) rfl (pv 4) pa_nil)))))))))), ?_⟩
  exact ((sk_seq (sk_set (gk_split gk_var gk_str))
    (sk_seq (sk_set (gk_if (tk_test (gk_op od_eq gk_var gk_int)) (gk_disp (.cons gk_int .nil)) (gk_disp (.cons gk_int (.cons gk_int .nil)))))
    (sk_seq (sk_if (tk_or (tk_test (gk_op od_dIn (gk_op od_ix gk_var gk_int) gk_var)) (tk_test (gk_op od_ne (gk_cb cd_len (ak_cons gk_var ak_nil)) (gk_dget gk_var (gk_op od_ix gk_var gk_int))))) (sk_ret gk_non) sk_next)
    (sk_seq (sk_set (gk_lc (ik_seq (gk_sl sd_B gk_var (pk_some gk_int) pk_none)) gt_name tk_yes (gk_call (ak_cons gk_var ak_nil)) (by decide)))
    (sk_ret (gk_if (tk_truK (gk_cb cd_any (ak_cons (gk_lc (ik_seq gk_var) gt_name tk_yes (gk_op od_is gk_var gk_non) (by decide)) ak_nil))) gk_non (gk_lst (ak_cons (gk_op od_ix gk_var gk_int) (ak_star gk_var ak_nil))))))))) : SOk K _ b_words_in)
theorem sc_Rule_read : FnScope nm_Rule_read pm_Rule_read (defScope s_Rule_read) := ⟨rfl, rfl, rfl, by decide +kernel, rfl, by decide +kernel, by decide +kernel⟩
theorem bi_Rule_read (T : Txt K mg) : Binds K T.Rule_read.fd pm_Rule_read [] := T.Rule_read.F.binds fun _ _ _ _ _ _ us hl => by obtain ⟨_, _, rfl⟩ := len2 hl; rfl
theorem kb_Rule_read_1 (T : Txt K mg) : KBn K T.Rule_read.fd pm_Rule_read 1 ["text"] (fun us ws => pick [0, 1] (us ++ (ws ++ []))) (fun vs zs => pick [0, 1] (vs ++ (zs ++ []))) :=
  kb_F T.Rule_read.F 1 _ _ fun _ _ _ _ _ _ us ws h1 h2 => by obtain ⟨_, rfl⟩ := ln1 h1; obtain ⟨_, rfl⟩ := ln1 h2; rfl
theorem ok_Rule_read (T : Txt K mg) : FnOk P w K mg base CX0 8 T.Rule_read.f T.Rule_read.fd pm_Rule_read (spF K r_Rule_read) := by
  have nd := sc_Rule_read.nd
  refine data_F T.Rule_read.F sc_Rule_read fun cdv A outer s H E hr => ?_
  refine ⟨_, (pss_cons (ps_if (pt_not (kpt_tru (K := K) rfl (pe_callB (kcr_isi (K := K) rfl) (by rfl) T.isinstance (by decide +kernel) (pa_cons (pv 1) (pa_cons (pe_bltn (v := .ty "str") (u := .type "str") (by rfl) T.str (by decide +kernel) rfl) pa_nil))) (by intro _; rfl))) (pss_one ps_never) pss_nil)
    (pss_cons (ps_setLc (i := 2) (own := [("at", 3), ("line", 7)]) rfl nd rfl rfl (sw_true rfl rfl rfl (by decide +kernel)) (kpi_enumA (K := K) rfl rfl T.enumerate (pa_cons (pe_split (pv 1) pe_str) pa_nil)) (blkOk_by (N := nm_Rule_read) (sc := defScope s_Rule_read) (by decide +kernel)) (fun _ _ _ _ _ => (kpg_tup (K := K) (n := 2) rfl rfl (pgs_cons (pg_name (i := 3) nd rfl (Or.inl rfl)) (pgs_cons (pg_name (i := 7) nd rfl (Or.inl rfl)) pgs_nil)))) (fun _ _ _ _ _ => pts_nil) (fun _ _ _ _ _ => (pe_call (ok_words_in T) (hr.mono (by decide)) rfl T.words_in.m T.words_in.F.kp (bi_words_in T) .nil pass0 (pa_cons (pv 7) (pa_cons (pv 3) pa_nil)))))
    (pss_cons (ps_for PassesOwn.never rfl (kpi_enumA (K := K) rfl rfl T.enumerate (pa_cons (pv 2) pa_nil)) (kpg_tup (K := K) (n := 2) rfl rfl (pgs_cons (pg_name (i := 3) nd rfl (Or.inl rfl)) (pgs_cons (pg_name (i := 4) nd rfl (Or.inl rfl)) pgs_nil))) (pss_one (ps_if (PW.pt (pw_or (pt_cmpR op_isA (pv 4) pe_non (nomark _)) (pw_or1 (PW.pt (pw_and (pt_cmpR op_gt (pv 3) pe_int (nomark _)) (pw_and (pt_cmpR (kop_eq (K := K) rfl hr.units) (pe_ix (kix (K := K) rfl) (pv 4) pe_int (fun _ _ => rfl)) pe_str (nomark _)) (pw_and1 (pt_cmpR (kop_eq (K := K) rfl hr.units) (pe_ix (kix (K := K) rfl) (pe_ix (kix (K := K) rfl) (pv 2) (pe_op op_subA (pv 3) pe_int) (fun _ _ => rfl)) pe_int (fun _ _ => rfl)) pe_str (nomark _))))))))) (pss_one ps_never) pss_nil)))
    (pss_cons (ps_setLc (i := 5) (own := [("words", 4)]) rfl nd rfl rfl (sw_true rfl rfl rfl (by decide +kernel)) (kpi_seq (K := K) rfl (pv 2)) (blkOk_by (N := nm_Rule_read) (sc := defScope s_Rule_read) (by decide +kernel)) (fun _ _ _ _ _ => (pg_name (i := 4) nd rfl (Or.inl rfl))) (fun _ _ _ _ _ => (pts_one (pt_cmpR (kop_eq (K := K) rfl hr.units) (pe_ix (kix (K := K) rfl) (pv 4) pe_int (fun _ _ => rfl)) pe_str (nomark _)))) (fun _ _ _ _ _ => (pe_callTy (kcr_tuple (K := K) rfl) (by rfl) T.tuple (by decide +kernel) (pa_cons (pe_slice (ksl_B (K := K) rfl) (pv 4) (po_some pe_int) po_none) pa_nil))))
    (pss_cons (ps_setLc (i := 6) (own := [("words", 4)]) rfl nd rfl rfl (sw_true rfl rfl rfl (by decide +kernel)) (kpi_seq (K := K) rfl (pv 2)) (blkOk_by (N := nm_Rule_read) (sc := defScope s_Rule_read) (by decide +kernel)) (fun _ _ _ _ _ => (pg_name (i := 4) nd rfl (Or.inl rfl))) (fun _ _ _ _ _ => (pts_one (pt_cmpR (kop_eq (K := K) rfl hr.units) (pe_ix (kix (K := K) rfl) (pv 4) pe_int (fun _ _ => rfl)) pe_str (nomark _)))) (fun _ _ _ _ _ => (pe_callTy (kcr_tuple (K := K) rfl) (by rfl) T.tuple (by decide +kernel) (pa_cons (pe_slice (ksl_B (K := K) rfl) (pv 4) (po_some pe_int) po_none) pa_nil))))
    (pss_one (ps_ret (pe_makeL (pv 0) T.mk_Rule (ok_Rule_init T) (hr.mono (by decide)) (bi_Rule_init_5 T).choose_spec.2 (bi_Rule_init_5 T).choose_spec.1 pass0 (pa_cons (pe_ix (kix (K := K) rfl) (pe_ix (kix (K := K) rfl) (pv 2) pe_int (fun _ _ => rfl)) pe_int (fun _ _ => rfl)) (pa_cons (pe_ix (kix (K := K) rfl) (pe_ix (kix (K := K) rfl) (pv 2) pe_int (fun _ _ => rfl)) pe_int (fun _ _ => rfl)) (pa_cons (pv 5) (pa_cons (pv 6) pa_nil)))))))))))), ?_⟩
  exact ((sk_seq (sk_if (tk_not (tk_truK (gk_cb cd_isi (ak_cons gk_var (ak_cons (gk_c fun _ => .ty _) ak_nil))))) sk_never sk_next)
    (sk_seq (sk_set (gk_lc (ik_enumA (ak_cons (gk_split gk_var gk_str) ak_nil)) (gt_tup (gts_cons gt_name (gts_cons gt_name gts_nil))) tk_yes (gk_call (ak_cons gk_var (ak_cons gk_var ak_nil))) (by decide)))
    (sk_seq (sk_for (ik_enumA (ak_cons gk_var ak_nil)) (gt_tup (gts_cons gt_name (gts_cons gt_name gts_nil))) ((sk_if (tk_or (tk_test (gk_op od_is gk_var gk_non)) (tk_and (tk_test (gk_op od_gt gk_var gk_int)) (tk_and (tk_test (gk_op od_eq (gk_op od_ix gk_var gk_int) gk_str)) (tk_test (gk_op od_eq (gk_op od_ix (gk_op od_ix gk_var (gk_op od_sub gk_var gk_int)) gk_int) gk_str))))) sk_never sk_next) : SOk K _ b_Rule_read_1))
    (sk_seq (sk_set (gk_lc (ik_seq gk_var) gt_name (tk_test (gk_op od_eq (gk_op od_ix gk_var gk_int) gk_str)) (gk_cb cd_tuple (ak_cons (gk_sl sd_B gk_var (pk_some gk_int) pk_none) ak_nil)) (by decide)))
    (sk_seq (sk_set (gk_lc (ik_seq gk_var) gt_name (tk_test (gk_op od_eq (gk_op od_ix gk_var gk_int) gk_str)) (gk_cb cd_tuple (ak_cons (gk_sl sd_B gk_var (pk_some gk_int) pk_none) ak_nil)) (by decide)))
    (sk_ret (gk_makeL T.Rule (fun H => (drs_drop (T.Rule_init.d H) 2)) gk_var (ak_cons (gk_op od_ix (gk_op od_ix gk_var gk_int) gk_int) (ak_cons (gk_op od_ix (gk_op od_ix gk_var gk_int) gk_int) (ak_cons gk_var (ak_cons gk_var ak_nil))))))))))) : SOk K _ b_Rule_read)
theorem sc_is_name : FnScope nm_is_name pm_is_name (defScope s_is_name) := ⟨rfl, rfl, rfl, by decide +kernel, rfl, by decide +kernel, by decide +kernel⟩
theorem bi_is_name (T : Txt K mg) : Binds K T.is_name.fd pm_is_name [] := T.is_name.F.binds fun _ _ _ _ _ _ us hl => by obtain ⟨_, rfl⟩ := len1 hl; rfl
theorem ok_is_name (T : Txt K mg) : FnOk P w K mg base CX0 1 T.is_name.f T.is_name.fd pm_is_name (spF K r_is_name) := by
  have nd := sc_is_name.nd
  refine data_F T.is_name.F sc_is_name fun cdv A outer s H E hr => ?_
  refine ⟨_, (pss_one (ps_ret (pe_and (pe_chain op_le op_le pe_int (pe_callB (kcr_len (K := K) rfl) (by rfl) T.len (by decide +kernel) (pa_cons (pv 0) pa_nil)) pe_int) (pe_one (pe_callB (kcr_all (K := K) rfl rfl) (by rfl) T.all (by decide +kernel) (pa_cons (pe_lc (own := [("sign", 1)]) rfl nd (pi_str (pv 0)) (blkOk_by (N := nm_is_name) (sc := defScope s_is_name) (by decide +kernel)) (fun _ _ _ _ _ => (pg_name (i := 1) nd rfl (Or.inl rfl))) (fun _ _ _ _ _ => pts_nil) (fun _ _ _ _ _ => (pe_cmpR (kop_inB (K := K) rfl (r70 hr)) (pv 1) (pe_glob rfl T.LETTERS.m T.LETTERS.r) (by rfl)))) pa_nil)))))), ?_⟩
  exact ((sk_ret (gk_vand (gk_chain od_le od_le gk_int (gk_cb cd_len (ak_cons gk_var ak_nil)) gk_int) (gk_cb cd_all (ak_cons (gk_lc (ik_strI gk_var) gt_name tk_yes (gk_op od_inB gk_var (gk_c T.LETTERS.d)) (by decide)) ak_nil)))) : SOk K _ b_is_name)
theorem sc_Desk_say : FnScope nm_Desk_say pm_Desk_say (defScope s_Desk_say) := ⟨rfl, rfl, rfl, by decide +kernel, rfl, by decide +kernel, by decide +kernel⟩
theorem kb_Desk_say_1 (T : Txt K mg) : KBn K T.Desk_say.fd pm_Desk_say 1 ["command"] (fun us ws => pick [0, 1] (us ++ (ws ++ []))) (fun vs zs => pick [0, 1] (vs ++ (zs ++ []))) :=
  kb_F T.Desk_say.F 1 _ _ fun _ _ _ _ _ _ us ws h1 h2 => by obtain ⟨_, rfl⟩ := ln1 h1; obtain ⟨_, rfl⟩ := ln1 h2; rfl
theorem ok_Desk_say (T : Txt K mg) : FnOk P w K mg base CX0 12 T.Desk_say.f T.Desk_say.fd pm_Desk_say (spB K r_Desk_say) := by
  have nd := sc_Desk_say.nd
  refine data_B T.Desk_say.F sc_Desk_say fun cdv A outer s H E hr => ?_
  refine ⟨_, (pss_cons (ps_set (i := 2) nd rfl (Or.inl rfl) (pe_ifExp (kpt_tru (K := K) rfl (pe_callB (kcr_isi (K := K) rfl) (by rfl) T.isinstance (by decide +kernel) (pa_cons (pv 1) (pa_cons (pe_bltn (v := .ty "str") (u := .type "str") (by rfl) T.str (by decide +kernel) rfl) pa_nil))) (by intro _; rfl)) (pe_split (pv 1) pe_str) (pe_lst pa_nil)))
    (pss_cons (ps_expr (pe_call (ok_need T) (hr.mono (by decide)) rfl T.need.m T.need.F.kp (bi_need T) .nil pass0 (pa_cons (pe_and (pe_cmpR op_gt (pe_callB (kcr_len (K := K) rfl) (by rfl) T.len (by decide +kernel) (pa_cons (pv 2) pa_nil)) pe_int (nomark _)) (pe_and (pe_cmpR (kop_notInB (K := K) rfl (r70 hr)) pe_str (pv 2) (by rfl)) (pe_one (pe_cmpR (kop_notInB (K := K) rfl (r70 hr)) pe_str (pv 1) (by rfl))))) pa_nil)))
    (pss_cons (ps_par (i := 3) (j := 4) rfl nd rfl rfl (by decide) rfl rfl (pa_cons (pe_ix (kix (K := K) rfl) (pv 2) pe_int (fun _ _ => rfl)) (pa_cons (pe_slice (ksl_B (K := K) rfl) (pv 2) (po_some pe_int) po_none) pa_nil)) (by rfl))
    (pss_cons (ps_if (pt_cmpR (kop_eq (K := K) rfl hr.units) (pv 3) pe_str (nomark _)) (pss_cons (ps_expr (pe_call (ok_need T) (hr.mono (by decide)) rfl T.need.m T.need.F.kp (bi_need T) .nil pass0 (pa_cons (pe_and (pe_call (ok_is_name T) (hr.mono (by decide)) rfl T.is_name.m T.is_name.F.kp (bi_is_name T) .nil pass0 (pa_cons (pe_ix (kix (K := K) rfl) (pv 4) pe_int (fun _ _ => rfl)) pa_nil)) (pe_one (pe_cmpR op_gt (pe_callB (kcr_len (K := K) rfl) (by rfl) T.len (by decide +kernel) (pa_cons (pv 4) pa_nil)) pe_int (nomark _)))) pa_nil)))
    (pss_one (ps_ret (pe_meth (pv 0) T.Desk.cls T.Desk_keep.m (ok_Desk_keep T) (hr.mono (by decide)) (bi_Desk_keep T) .nil pass0 (pa_cons (pe_ix (kix (K := K) rfl) (pv 4) pe_int (fun _ _ => rfl)) (pa_cons (ClX.pe_cmeth (pe_glob (v := .ref T.Rule.C) rfl T.Rule.mg rfl) T.Rule_read.r T.Rule_read.m ((ok_Rule_read T).raw (bi_Rule_read T) .nil) (hr.mono (by decide)) pass0 (pa_cons (kpe_joinRepl (K := K) rfl (pe_slice (ksl_B (K := K) rfl) (pv 4) (po_some pe_int) po_none)) pa_nil)) pa_nil)))))) pss_nil)
    (pss_cons (ps_if (pt_cmpR (kop_inB (K := K) rfl (r70 hr)) (pv 3) (pe_tup (pa_cons pe_str (pa_cons pe_str pa_nil))) (by rfl)) (pss_cons (ps_expr (pe_call (ok_need T) (hr.mono (by decide)) rfl T.need.m T.need.F.kp (bi_need T) .nil pass0 (pa_cons (pe_and (pe_cmpR (kop_eq (K := K) rfl hr.units) (pe_callB (kcr_len (K := K) rfl) (by rfl) T.len (by decide +kernel) (pa_cons (pv 4) pa_nil)) pe_int (nomark _)) (pe_and (pe_call (ok_is_name T) (hr.mono (by decide)) rfl T.is_name.m T.is_name.F.kp (bi_is_name T) .nil pass0 (pa_cons (pe_ix (kix (K := K) rfl) (pv 4) pe_int (fun _ _ => rfl)) pa_nil)) (pe_one (pe_meth (pv 0) T.Desk.cls T.Desk_has.m (ok_Desk_has T) (hr.mono (by decide)) (bi_Desk_has T) .nil pass0 (pa_cons (pe_slice (ksl_B (K := K) rfl) (pv 4) (po_some pe_int) po_none) pa_nil))))) pa_nil)))
    (pss_cons (ps_par (i := 5) (j := 6) rfl nd rfl rfl (by decide) rfl rfl (pa_cons (pe_dget (r1h hr) (kpe_fld (K := K) rfl (pv 0) rfl) (pe_ix (kix (K := K) rfl) (pv 4) pe_int (fun _ _ => rfl)) (fun _ _ => rfl)) (pa_cons (pe_dget (r1h hr) (kpe_fld (K := K) rfl (pv 0) rfl) (pe_ix (kix (K := K) rfl) (pv 4) pe_int (fun _ _ => rfl)) (fun _ _ => rfl)) pa_nil)) (by rfl))
    (pss_one (ps_ret (pe_meth (pv 0) T.Desk.cls T.Desk_keep.m (ok_Desk_keep T) (hr.mono (by decide)) (bi_Desk_keep T) .nil pass0 (pa_cons (pe_ix (kix (K := K) rfl) (pv 4) pe_int (fun _ _ => rfl)) (pa_cons (pe_ifExp (pt_cmpR (kop_eq (K := K) rfl hr.units) (pv 3) pe_str (nomark _)) (pe_op (OpR.or (kop_addB (K := K) rfl) (op_bin (E := E0) T.sf_Rule T.Rule_add.m.at_ T.Rule_add.m.fn (ok_Rule_add T) (hr.mono (by decide)) (bi_Rule_add T) pass0)) (pv 5) (pv 6)) (pe_op (OpR.or op_subA (op_bin (E := E0) T.sf_Rule T.Rule_sub.m.at_ T.Rule_sub.m.fn (ok_Rule_sub T) (hr.mono (by decide)) (bi_Rule_sub T) pass0)) (pv 5) (pv 6))) pa_nil))))))) pss_nil)
    (pss_one (ps_ret (pe_meth (pv 0) T.Desk.cls T.Desk_answer.m (ok_Desk_answer T) (hr.mono (by decide)) (bi_Desk_answer T) .nil pass0 (pa_cons (pv 3) (pa_cons (pv 4) pa_nil)))))))))), ?_⟩
  exact ((sk_seq (sk_set (gk_if (tk_truK (gk_cb cd_isi (ak_cons gk_var (ak_cons (gk_c fun _ => .ty _) ak_nil)))) (gk_split gk_var gk_str) (gk_lst ak_nil)))
    (sk_seq (sk_drop (gk_call (ak_cons (gk_vand (gk_op od_gt (gk_cb cd_len (ak_cons gk_var ak_nil)) gk_int) (gk_vand (gk_op od_inB gk_str gk_var) (gk_op od_inB gk_str gk_var))) ak_nil)))
    (sk_seq (sk_ypar (yk_cons (gk_op od_ix gk_var gk_int) (yk_cons (gk_sl sd_B gk_var (pk_some gk_int) pk_none) yk_nil)))
    (sk_seq (sk_if (tk_test (gk_op od_eq gk_var gk_str)) (sk_seq (sk_drop (gk_call (ak_cons (gk_vand (gk_call (ak_cons (gk_op od_ix gk_var gk_int) ak_nil)) (gk_op od_gt (gk_cb cd_len (ak_cons gk_var ak_nil)) gk_int)) ak_nil)))
    (sk_ret (gk_methB (nm := "keep") T.Desk (by decide +kernel) (ak_cons (gk_op od_ix gk_var gk_int) (ak_cons (gk_cmeth T.Rule (gk_c fun _ => .cl T.Rule.at_) (ak_cons (gk_repl (gk_join gk_str (gk_sl sd_B gk_var (pk_some gk_int) pk_none))) ak_nil)) ak_nil))))) sk_next)
    (sk_seq (sk_if (tk_test (gk_op od_inB gk_var (gk_tup (ak_cons gk_str (ak_cons gk_str ak_nil))))) (sk_seq (sk_drop (gk_call (ak_cons (gk_vand (gk_op od_eq (gk_cb cd_len (ak_cons gk_var ak_nil)) gk_int) (gk_vand (gk_call (ak_cons (gk_op od_ix gk_var gk_int) ak_nil)) (gk_methB (nm := "has") T.Desk (by decide +kernel) (ak_cons (gk_sl sd_B gk_var (pk_some gk_int) pk_none) ak_nil)))) ak_nil)))
    (sk_seq (sk_ypar (yk_cons (gk_dget (gk_fldv T.Desk rfl) (gk_op od_ix gk_var gk_int)) (yk_cons (gk_dget (gk_fldv T.Desk rfl) (gk_op od_ix gk_var gk_int)) yk_nil)))
    (sk_ret (gk_methB (nm := "keep") T.Desk (by decide +kernel) (ak_cons (gk_op od_ix gk_var gk_int) (ak_cons (gk_if (tk_test (gk_op od_eq gk_var gk_str)) (gk_op (od_own T.Rule.at_ od_addB) gk_var gk_var) (gk_op (od_own T.Rule.at_ od_sub) gk_var gk_var)) ak_nil)))))) sk_next)
    (sk_ret (gk_methB (nm := "answer") T.Desk (by decide +kernel) (ak_cons gk_var (ak_cons gk_var ak_nil))))))))) : SOk K _ b_Desk_say)
theorem sc_Live_init : FnScope nm_Live_init pm_Live_init (defScope s_Live_init) := ⟨rfl, rfl, rfl, by decide +kernel, rfl, by decide +kernel, by decide +kernel⟩
theorem kb_Live_init_1 (T : Txt K mg) : KBn K T.Live_init.fd pm_Live_init 1 ["high", "low"] (fun us ws => pick [0, 2, 1] (us ++ (ws ++ []))) (fun vs zs => pick [0, 2, 1] (vs ++ (zs ++ []))) :=
  kb_F T.Live_init.F 1 _ _ fun _ _ _ _ _ _ us ws h1 h2 => by obtain ⟨_, rfl⟩ := ln1 h1; obtain ⟨_, _, rfl⟩ := ln2 h2; rfl
theorem ok_Live_init (T : Txt K mg) : FnOk P w K mg base CX0 8 T.Live_init.f T.Live_init.fd pm_Live_init (spB K r_Live_init) := by
  have nd := sc_Live_init.nd
  refine data_B T.Live_init.F sc_Live_init fun cdv A outer s H E hr => ?_
  refine ⟨_, (pss_one (kps_fld (K := K) rfl (pv 0) (pe_tup (pa_cons (pe_make T.mk_Rule (ok_Rule_init T) (hr.mono (by decide)) rfl T.Rule.mg (bi_Rule_init_3 T).choose_spec.2 (bi_Rule_init_3 T).choose_spec.1 pass0 (pa_cons (pv 1) (pa_cons (pv 2) pa_nil))) pa_nil)) rfl)), ?_⟩
  exact ((sk_setf T.Live rfl (gk_tup (ak_cons (gk_make T.Rule (fun H => (drs_drop (T.Rule_init.d H) 0)) (ak_cons gk_var (ak_cons gk_var ak_nil))) ak_nil))) : SOk K _ b_Live_init)
theorem sc_Live_len : FnScope nm_Live_len pm_Live_len (defScope s_Live_len) := ⟨rfl, rfl, rfl, by decide +kernel, rfl, by decide +kernel, by decide +kernel⟩
theorem bi_Live_len (T : Txt K mg) : Binds K T.Live_len.fd pm_Live_len [] := T.Live_len.F.binds fun _ _ _ _ _ _ us hl => by obtain ⟨_, rfl⟩ := len1 hl; rfl
theorem ok_Live_len (T : Txt K mg) : FnOk P w K mg base CX0 1 T.Live_len.f T.Live_len.fd pm_Live_len (spB K r_Live_len) := by
  have nd := sc_Live_len.nd
  refine data_B T.Live_len.F sc_Live_len fun cdv A outer s H E hr => ?_
  refine ⟨_, (pss_one (ps_ret (pe_callB (kcr_len (K := K) rfl) (by rfl) T.len (by decide +kernel) (pa_cons (pe_slice (ksl_B (K := K) rfl) (kpe_fld (K := K) rfl (pv 0) rfl) (po_some pe_int) po_none) pa_nil)))), ?_⟩
  exact ((sk_ret (gk_cb cd_len (ak_cons (gk_sl sd_B (gk_fldv T.Live rfl) (pk_some gk_int) pk_none) ak_nil))) : SOk K _ b_Live_len)
theorem sc_Live_shown : FnScope nm_Live_shown pm_Live_shown (defScope s_Live_shown) := ⟨rfl, rfl, rfl, by decide +kernel, rfl, by decide +kernel, by decide +kernel⟩
theorem bi_Live_shown (T : Txt K mg) : Binds K T.Live_shown.fd pm_Live_shown [] := T.Live_shown.F.binds fun _ _ _ _ _ _ us hl => by obtain ⟨_, rfl⟩ := len1 hl; rfl
theorem ok_Live_shown (T : Txt K mg) : FnOk P w K mg base CX0 1 T.Live_shown.f T.Live_shown.fd pm_Live_shown (spB K r_Live_shown) := by
  have nd := sc_Live_shown.nd
  refine data_B T.Live_shown.F sc_Live_shown fun cdv A outer s H E hr => ?_
  refine ⟨_, (pss_one (ps_ret (pe_ix (kix (K := K) rfl) (kpe_fld (K := K) rfl (pv 0) rfl) (pe_un un_neg pe_int) (fun _ _ => rfl)))), ?_⟩
  exact ((sk_ret (gk_op od_ix (gk_fldv T.Live rfl) (gk_un ud_neg gk_int))) : SOk K _ b_Live_shown)
theorem sc_Live_grow : FnScope nm_Live_grow pm_Live_grow (defScope s_Live_grow) := ⟨rfl, rfl, rfl, by decide +kernel, rfl, by decide +kernel, by decide +kernel⟩
theorem bi_Live_grow (T : Txt K mg) : Binds K T.Live_grow.fd pm_Live_grow [] := T.Live_grow.F.binds fun _ _ _ _ _ _ us hl => by obtain ⟨_, _, _, rfl⟩ := len3 hl; rfl
theorem ok_Live_grow (T : Txt K mg) : FnOk P w K mg base CX0 8 T.Live_grow.f T.Live_grow.fd pm_Live_grow (spB K r_Live_grow) := by
  have nd := sc_Live_grow.nd
  refine data_B T.Live_grow.F sc_Live_grow fun cdv A outer s H E hr => ?_
  refine ⟨_, (pss_cons (ps_set (i := 3) nd rfl (Or.inl rfl) (pe_prop (pv 0) T.Live.cls T.Live_shown.m (ok_Live_shown T) (hr.mono (by decide)) (bi_Live_shown T) .nil pass0 rfl))
    (pss_one (kps_fld (K := K) rfl (pv 0) (pe_tup (kpa_star (K := K) rfl (kpe_fld (K := K) rfl (pv 0) rfl) (pa_cons (pe_make T.mk_Rule (ok_Rule_init T) (hr.mono (by decide)) rfl T.Rule.mg (bi_Rule_init_5 T).choose_spec.2 (bi_Rule_init_5 T).choose_spec.1 pass0 (pa_cons (kpe_fld (K := K) rfl (pv 3) rfl) (pa_cons (kpe_fld (K := K) rfl (pv 3) rfl) (pa_cons (pe_lst (kpa_star (K := K) rfl (kpe_fld (K := K) rfl (pv 3) rfl) (kpa_star (K := K) rfl (pv 1) pa_nil))) (pa_cons (pe_lst (kpa_star (K := K) rfl (kpe_fld (K := K) rfl (pv 3) rfl) (kpa_star (K := K) rfl (pv 2) pa_nil))) pa_nil))))) pa_nil))) rfl))), ?_⟩
  exact ((sk_seq (sk_set (gk_propB T.Live))
    (sk_setf T.Live rfl (gk_tup (ak_star (gk_fldv T.Live rfl) (ak_cons (gk_make T.Rule (fun H => (drs_drop (T.Rule_init.d H) 2)) (ak_cons (gk_fld T.Rule rfl gk_var) (ak_cons (gk_fld T.Rule rfl gk_var) (ak_cons (gk_lst (ak_star (gk_fld T.Rule rfl gk_var) (ak_star gk_var ak_nil))) (ak_cons (gk_lst (ak_star (gk_fld T.Rule rfl gk_var) (ak_star gk_var ak_nil))) ak_nil))))) ak_nil))))) : SOk K _ b_Live_grow)
theorem sc_Live_cover : FnScope nm_Live_cover pm_Live_cover (defScope s_Live_cover) := ⟨rfl, rfl, rfl, by decide +kernel, rfl, by decide +kernel, by decide +kernel⟩
theorem kb_Live_cover_1 (T : Txt K mg) : KBn K T.Live_cover.fd pm_Live_cover 1 ["share", "end", "start"] (fun us ws => pick [0, 3, 2, 1] (us ++ (ws ++ []))) (fun vs zs => pick [0, 3, 2, 1] (vs ++ (zs ++ []))) :=
  kb_F T.Live_cover.F 1 _ _ fun _ _ _ _ _ _ us ws h1 h2 => by obtain ⟨_, rfl⟩ := ln1 h1; obtain ⟨_, _, _, rfl⟩ := ln3 h2; rfl
theorem ok_Live_cover (T : Txt K mg) : FnOk P w K mg base CX0 9 T.Live_cover.f T.Live_cover.fd pm_Live_cover (spB K r_Live_cover) := by
  have nd := sc_Live_cover.nd
  refine data_B T.Live_cover.F sc_Live_cover fun cdv A outer s H E hr => ?_
  refine ⟨_, (pss_cons (ps_if (pt_not (kpt_tru (K := K) rfl (pe_call (ok_is_share T) (hr.mono (by decide)) rfl T.is_share.m T.is_share.F.kp (bi_is_share T) .nil pass0 (pa_cons (pe_tup (pa_cons (pv 1) (pa_cons (pv 2) (pa_cons (pv 3) pa_nil)))) (pa_cons (kpe_fld (K := K) rfl (pe_prop (pv 0) T.Live.cls T.Live_shown.m (ok_Live_shown T) (hr.mono (by decide)) (bi_Live_shown T) .nil pass0 rfl) rfl) (pa_cons (kpe_fld (K := K) rfl (pe_prop (pv 0) T.Live.cls T.Live_shown.m (ok_Live_shown T) (hr.mono (by decide)) (bi_Live_shown T) .nil pass0 rfl) rfl) pa_nil)))) (by intro _; rfl))) (pss_one ps_never) pss_nil)
    (pss_one (ps_expr (pe_meth (pv 0) T.Live.cls T.Live_grow.m (ok_Live_grow T) (hr.mono (by decide)) (bi_Live_grow T) .nil pass0 (pa_cons (pe_lst pa_nil) (pa_cons (pe_lst (pa_cons (pe_tup (pa_cons (pv 1) (pa_cons (pv 2) (pa_cons (pv 3) pa_nil)))) pa_nil)) pa_nil)))))), ?_⟩
  exact ((sk_seq (sk_if (tk_not (tk_truK (gk_call (ak_cons (gk_tup (ak_cons gk_var (ak_cons gk_var (ak_cons gk_var ak_nil)))) (ak_cons (gk_fld T.Rule rfl (gk_propB T.Live)) (ak_cons (gk_fld T.Rule rfl (gk_propB T.Live)) ak_nil)))))) sk_never sk_next)
    (sk_drop (gk_methB (nm := "grow") T.Live (by decide +kernel) (ak_cons (gk_lst ak_nil) (ak_cons (gk_lst (ak_cons (gk_tup (ak_cons gk_var (ak_cons gk_var (ak_cons gk_var ak_nil)))) ak_nil)) ak_nil))))) : SOk K _ b_Live_cover)
theorem sc_Live_is_for : FnScope nm_Live_is_for pm_Live_is_for (defScope s_Live_is_for) := ⟨rfl, rfl, rfl, by decide +kernel, rfl, by decide +kernel, by decide +kernel⟩
theorem kb_Live_is_for_1 (T : Txt K mg) : KBn K T.Live_is_for.fd pm_Live_is_for 1 ["n"] (fun us ws => pick [0, 1] (us ++ (ws ++ []))) (fun vs zs => pick [0, 1] (vs ++ (zs ++ []))) :=
  kb_F T.Live_is_for.F 1 _ _ fun _ _ _ _ _ _ us ws h1 h2 => by obtain ⟨_, rfl⟩ := ln1 h1; obtain ⟨_, rfl⟩ := ln1 h2; rfl
theorem ok_Live_is_for (T : Txt K mg) : FnOk P w K mg base CX0 10 T.Live_is_for.f T.Live_is_for.fd pm_Live_is_for (spB K r_Live_is_for) := by
  have nd := sc_Live_is_for.nd
  refine data_B T.Live_is_for.F sc_Live_is_for fun cdv A outer s H E hr => ?_
  refine ⟨_, (pss_one (ps_ret (pe_call (ok_never_below T) (hr.mono (by decide)) rfl T.never_below.m T.never_below.F.kp (bi_never_below T) .nil pass0 (pa_cons (pe_prop (pv 0) T.Live.cls T.Live_shown.m (ok_Live_shown T) (hr.mono (by decide)) (bi_Live_shown T) .nil pass0 rfl) (pa_cons (pv 1) pa_nil))))), ?_⟩
  exact ((sk_ret (gk_call (ak_cons (gk_propB T.Live) (ak_cons gk_var ak_nil)))) : SOk K _ b_Live_is_for)
theorem sc_Live_put : FnScope nm_Live_put pm_Live_put (defScope s_Live_put) := ⟨rfl, rfl, rfl, by decide +kernel, rfl, by decide +kernel, by decide +kernel⟩
theorem kb_Live_put_1 (T : Txt K mg) : KBn K T.Live_put.fd pm_Live_put 1 ["weight", "point"] (fun us ws => pick [0, 2, 1] (us ++ (ws ++ []))) (fun vs zs => pick [0, 2, 1] (vs ++ (zs ++ []))) :=
  kb_F T.Live_put.F 1 _ _ fun _ _ _ _ _ _ us ws h1 h2 => by obtain ⟨_, rfl⟩ := ln1 h1; obtain ⟨_, _, rfl⟩ := ln2 h2; rfl
theorem ok_Live_put (T : Txt K mg) : FnOk P w K mg base CX0 9 T.Live_put.f T.Live_put.fd pm_Live_put (spB K r_Live_put) := by
  have nd := sc_Live_put.nd
  refine data_B T.Live_put.F sc_Live_put fun cdv A outer s H E hr => ?_
  refine ⟨_, (pss_cons (ps_if (pt_not (kpt_tru (K := K) rfl (pe_call (ok_is_weight T) (hr.mono (by decide)) rfl T.is_weight.m T.is_weight.F.kp (bi_is_weight T) .nil pass0 (pa_cons (pe_tup (pa_cons (pv 1) (pa_cons (pv 2) pa_nil))) (pa_cons (kpe_fld (K := K) rfl (pe_prop (pv 0) T.Live.cls T.Live_shown.m (ok_Live_shown T) (hr.mono (by decide)) (bi_Live_shown T) .nil pass0 rfl) rfl) (pa_cons (kpe_fld (K := K) rfl (pe_prop (pv 0) T.Live.cls T.Live_shown.m (ok_Live_shown T) (hr.mono (by decide)) (bi_Live_shown T) .nil pass0 rfl) rfl) pa_nil)))) (by intro _; rfl))) (pss_one ps_never) pss_nil)
    (pss_one (ps_expr (pe_meth (pv 0) T.Live.cls T.Live_grow.m (ok_Live_grow T) (hr.mono (by decide)) (bi_Live_grow T) .nil pass0 (pa_cons (pe_lst (pa_cons (pe_tup (pa_cons (pv 1) (pa_cons (pv 2) pa_nil))) pa_nil)) (pa_cons (pe_lst pa_nil) pa_nil)))))), ?_⟩
  exact ((sk_seq (sk_if (tk_not (tk_truK (gk_call (ak_cons (gk_tup (ak_cons gk_var (ak_cons gk_var ak_nil))) (ak_cons (gk_fld T.Rule rfl (gk_propB T.Live)) (ak_cons (gk_fld T.Rule rfl (gk_propB T.Live)) ak_nil)))))) sk_never sk_next)
    (sk_drop (gk_methB (nm := "grow") T.Live (by decide +kernel) (ak_cons (gk_lst (ak_cons (gk_tup (ak_cons gk_var (ak_cons gk_var ak_nil))) ak_nil)) (ak_cons (gk_lst ak_nil) ak_nil))))) : SOk K _ b_Live_put)
theorem sc_Live_several : FnScope nm_Live_several pm_Live_several (defScope s_Live_several) := ⟨rfl, rfl, rfl, by decide +kernel, rfl, by decide +kernel, by decide +kernel⟩
theorem kb_Live_several_1 (T : Txt K mg) : KBn K T.Live_several.fd pm_Live_several 1 ["weights"] (fun us ws => pick [0, 1] (us ++ (ws ++ []))) (fun vs zs => pick [0, 1] (vs ++ (zs ++ []))) :=
  kb_F T.Live_several.F 1 _ _ fun _ _ _ _ _ _ us ws h1 h2 => by obtain ⟨_, rfl⟩ := ln1 h1; obtain ⟨_, rfl⟩ := ln1 h2; rfl
theorem ok_Live_several (T : Txt K mg) : FnOk P w K mg base CX0 9 T.Live_several.f T.Live_several.fd pm_Live_several (spB K r_Live_several) := by
  have nd := sc_Live_several.nd
  refine data_B T.Live_several.F sc_Live_several fun cdv A outer s H E hr => ?_
  refine ⟨_, (pss_cons (ps_if (pt_not (kpt_tru (K := K) rfl (pe_call (ok_is_sequence T) (hr.mono (by decide)) rfl T.is_sequence.m T.is_sequence.F.kp (bi_is_sequence T) .nil pass0 (pa_cons (pv 1) pa_nil)) (by intro _; rfl))) (pss_one ps_never) pss_nil)
    (pss_cons (ps_for PassesOwn.never rfl (kpi_enumA (K := K) rfl rfl T.enumerate (pa_cons (pv 1) pa_nil)) (kpg_tup (K := K) (n := 2) rfl rfl (pgs_cons (pg_name (i := 2) nd rfl (Or.inl rfl)) (pgs_cons (pg_name (i := 3) nd rfl (Or.inl rfl)) pgs_nil))) (pss_one (ps_if (pt_not (kpt_tru (K := K) rfl (pe_call (ok_is_weight T) (hr.mono (by decide)) rfl T.is_weight.m T.is_weight.F.kp (bi_is_weight T) .nil pass0 (pa_cons (pv 3) (pa_cons (kpe_fld (K := K) rfl (pe_prop (pv 0) T.Live.cls T.Live_shown.m (ok_Live_shown T) (hr.mono (by decide)) (bi_Live_shown T) .nil pass0 rfl) rfl) (pa_cons (kpe_fld (K := K) rfl (pe_prop (pv 0) T.Live.cls T.Live_shown.m (ok_Live_shown T) (hr.mono (by decide)) (bi_Live_shown T) .nil pass0 rfl) rfl) pa_nil)))) (by intro _; rfl))) (pss_one ps_never) pss_nil)))
    (pss_one (ps_expr (pe_meth (pv 0) T.Live.cls T.Live_grow.m (ok_Live_grow T) (hr.mono (by decide)) (bi_Live_grow T) .nil pass0 (pa_cons (pv 1) (pa_cons (pe_lst pa_nil) pa_nil))))))), ?_⟩
  exact ((sk_seq (sk_if (tk_not (tk_truK (gk_call (ak_cons gk_var ak_nil)))) sk_never sk_next)
    (sk_seq (sk_for (ik_enumA (ak_cons gk_var ak_nil)) (gt_tup (gts_cons gt_name (gts_cons gt_name gts_nil))) ((sk_if (tk_not (tk_truK (gk_call (ak_cons gk_var (ak_cons (gk_fld T.Rule rfl (gk_propB T.Live)) (ak_cons (gk_fld T.Rule rfl (gk_propB T.Live)) ak_nil)))))) sk_never sk_next) : SOk K _ b_Live_several_1))
    (sk_drop (gk_methB (nm := "grow") T.Live (by decide +kernel) (ak_cons gk_var (ak_cons (gk_lst ak_nil) ak_nil)))))) : SOk K _ b_Live_several)
theorem sc_led_point : FnScope nm_led_point pm_led_point (defScope s_led_point) := ⟨rfl, rfl, rfl, by decide +kernel, rfl, by decide +kernel, by decide +kernel⟩
theorem bi_led_point (T : Txt K mg) : Binds K T.led_point.fd pm_led_point [] := T.led_point.F.binds fun _ _ _ _ _ _ us hl => by obtain ⟨_, _, _, _, rfl⟩ := len4 hl; rfl
theorem ok_led_point (T : Txt K mg) : FnOk P w K mg base CX0 4 T.led_point.f T.led_point.fd pm_led_point (spF K r_led_point) := by
  have nd := sc_led_point.nd
  refine data_F T.led_point.F sc_led_point fun cdv A outer s H E hr => ?_
  refine ⟨_, (pss_one (ps_ret (pe_call (ok_added T) (hr.mono (by decide)) rfl T.added.m T.added.F.kp (bi_added T) .nil pass0 (pa_cons (pv 1) (pa_cons (pe_call (ok_multiplied T) (hr.mono (by decide)) rfl T.multiplied.m T.multiplied.F.kp (bi_multiplied T) .nil pass0 (pa_cons (pe_call (ok_less_by T) (hr.mono (by decide)) rfl T.less_by.m T.less_by.F.kp (bi_less_by T) .nil pass0 (pa_cons (pv 3) (pa_cons (pv 0) pa_nil))) (pa_cons (pv 2) pa_nil))) pa_nil))))), ?_⟩
  exact ((sk_ret (gk_call (ak_cons gk_var (ak_cons (gk_call (ak_cons (gk_call (ak_cons gk_var (ak_cons gk_var ak_nil))) (ak_cons gk_var ak_nil))) ak_nil)))) : SOk K _ b_led_point)
theorem sc_Rule_led : FnScope nm_Rule_led pm_Rule_led (defScope s_Rule_led) := ⟨rfl, rfl, rfl, by decide +kernel, rfl, by decide +kernel, by decide +kernel⟩
theorem bi_Rule_led (T : Txt K mg) : Binds K T.Rule_led.fd pm_Rule_led [] := T.Rule_led.F.binds fun _ _ _ _ _ _ us hl => by obtain ⟨_, _, _, rfl⟩ := len3 hl; rfl
theorem kb_Rule_led_1 (T : Txt K mg) : KBn K T.Rule_led.fd pm_Rule_led 1 ["high", "low"] (fun us ws => pick [0, 2, 1] (us ++ (ws ++ []))) (fun vs zs => pick [0, 2, 1] (vs ++ (zs ++ []))) :=
  kb_F T.Rule_led.F 1 _ _ fun _ _ _ _ _ _ us ws h1 h2 => by obtain ⟨_, rfl⟩ := ln1 h1; obtain ⟨_, _, rfl⟩ := ln2 h2; rfl
theorem ok_Rule_led (T : Txt K mg) : FnOk P w K mg base CX0 8 T.Rule_led.f T.Rule_led.fd pm_Rule_led (spF K r_Rule_led) := by
  have nd := sc_Rule_led.nd
  refine data_F T.Rule_led.F sc_Rule_led fun cdv A outer s H E hr => ?_
  refine ⟨_, (pss_cons (ps_asg (pe_call (ok_need_stretch T) (hr.mono (by decide)) rfl T.need_stretch.m T.need_stretch.F.kp (bi_need_stretch T) .nil pass0 (pa_cons (pv 1) (pa_cons (pv 2) pa_nil))) (kpg_tup (K := K) (n := 2) rfl rfl (pgs_cons (pg_name (i := 3) nd rfl (Or.inr rfl)) (pgs_cons (pg_name (i := 4) nd rfl (Or.inl rfl)) pgs_nil))))
    (pss_cons (ps_set (i := 5) nd rfl (Or.inr rfl) (pe_call (ok_quotient T) (hr.mono (by decide)) rfl T.quotient.m T.quotient.F.kp (bi_quotient T) .nil pass0 (pa_cons (pe_call (ok_less_by T) (hr.mono (by decide)) rfl T.less_by.m T.less_by.F.kp (bi_less_by T) .nil pass0 (pa_cons (pv 4) (pa_cons (pv 3) pa_nil))) (pa_cons (pe_call (ok_less_by T) (hr.mono (by decide)) rfl T.less_by.m T.less_by.F.kp (bi_less_by T) .nil pass0 (pa_cons (kpe_fld (K := K) rfl (pv 0) rfl) (pa_cons (kpe_fld (K := K) rfl (pv 0) rfl) pa_nil))) pa_nil))))
    (pss_cons (ps_setLc (i := 6) (own := [("point", 12), ("weight", 13)]) rfl nd rfl rfl (sw_true rfl rfl rfl (by decide +kernel)) (kpi_seq (K := K) rfl (kpe_fld (K := K) rfl (pv 0) rfl)) (blkOk_by (N := nm_Rule_led) (sc := defScope s_Rule_led) (by decide +kernel)) (fun _ _ _ _ _ => (kpg_tup (K := K) (n := 2) rfl rfl (pgs_cons (pg_name (i := 12) nd rfl (Or.inl rfl)) (pgs_cons (pg_name (i := 13) nd rfl (Or.inl rfl)) pgs_nil)))) (fun _ _ _ _ _ => pts_nil) (fun _ _ _ _ _ => (pe_tup (pa_cons (pe_call (ok_led_point T) (hr.mono (by decide)) rfl T.led_point.m T.led_point.F.kp (bi_led_point T) .nil pass0 (pa_cons (kpe_fld (K := K) rfl (pv 0) rfl) (pa_cons (pv 3) (pa_cons (pv 5) (pa_cons (pv 12) pa_nil))))) (pa_cons (pv 13) pa_nil)))))
    (pss_cons (ps_set (i := 7) nd rfl (Or.inl rfl) (pe_lst pa_nil))
    (pss_cons (ps_for PassesOwn.never rfl (kpi_seq (K := K) rfl (kpe_fld (K := K) rfl (pv 0) rfl)) (kpg_tup (K := K) (n := 3) rfl rfl (pgs_cons (pg_name (i := 8) nd rfl (Or.inl rfl)) (pgs_cons (pg_name (i := 9) nd rfl (Or.inl rfl)) (pgs_cons (pg_name (i := 10) nd rfl (Or.inl rfl)) pgs_nil)))) (pss_cons (ps_set (i := 11) nd rfl (Or.inl rfl) (pe_tup (pa_cons (pe_call (ok_led_point T) (hr.mono (by decide)) rfl T.led_point.m T.led_point.F.kp (bi_led_point T) .nil pass0 (pa_cons (kpe_fld (K := K) rfl (pv 0) rfl) (pa_cons (pv 3) (pa_cons (pv 5) (pa_cons (pv 8) pa_nil))))) (pa_cons (pe_call (ok_led_point T) (hr.mono (by decide)) rfl T.led_point.m T.led_point.F.kp (bi_led_point T) .nil pass0 (pa_cons (kpe_fld (K := K) rfl (pv 0) rfl) (pa_cons (pv 3) (pa_cons (pv 5) (pa_cons (pv 9) pa_nil))))) pa_nil))))
    (pss_one (ps_expr (kpe_app (K := K) rfl (pv 7) (pe_tup (kpa_star (K := K) rfl (pv 11) (pa_cons (pe_call (ok_quotient T) (hr.mono (by decide)) rfl T.quotient.m T.quotient.F.kp (bi_quotient T) .nil pass0 (pa_cons (pv 10) (pa_cons (pv 5) pa_nil))) pa_nil))))))))
    (pss_one (ps_ret (pe_make T.mk_Rule (ok_Rule_init T) (hr.mono (by decide)) rfl T.Rule.mg (bi_Rule_init_5 T).choose_spec.2 (bi_Rule_init_5 T).choose_spec.1 pass0 (pa_cons (pv 3) (pa_cons (pv 4) (pa_cons (pv 6) (pa_cons (pv 7) pa_nil)))))))))))), ?_⟩
  exact ((sk_seq (sk_asg (gk_call (ak_cons gk_var (ak_cons gk_var ak_nil))) (gt_tup (gts_cons gt_name (gts_cons gt_name gts_nil))))
    (sk_seq (sk_set (gk_call (ak_cons (gk_call (ak_cons gk_var (ak_cons gk_var ak_nil))) (ak_cons (gk_call (ak_cons (gk_fld T.Rule rfl gk_var) (ak_cons (gk_fld T.Rule rfl gk_var) ak_nil))) ak_nil))))
    (sk_seq (sk_set (gk_lc (ik_seq (gk_fld T.Rule rfl gk_var)) (gt_tup (gts_cons gt_name (gts_cons gt_name gts_nil))) tk_yes (gk_tup (ak_cons (gk_call (ak_cons (gk_fld T.Rule rfl gk_var) (ak_cons gk_var (ak_cons gk_var (ak_cons gk_var ak_nil))))) (ak_cons gk_var ak_nil))) (by decide)))
    (sk_seq (sk_set (gk_lst ak_nil))
    (sk_seq (sk_for (ik_seq (gk_fld T.Rule rfl gk_var)) (gt_tup (gts_cons gt_name (gts_cons gt_name (gts_cons gt_name gts_nil)))) ((sk_seq (sk_set (gk_tup (ak_cons (gk_call (ak_cons (gk_fld T.Rule rfl gk_var) (ak_cons gk_var (ak_cons gk_var (ak_cons gk_var ak_nil))))) (ak_cons (gk_call (ak_cons (gk_fld T.Rule rfl gk_var) (ak_cons gk_var (ak_cons gk_var (ak_cons gk_var ak_nil))))) ak_nil))))
    (sk_app (gk_tup (ak_star gk_var (ak_cons (gk_call (ak_cons gk_var (ak_cons gk_var ak_nil))) ak_nil))))) : SOk K _ b_Rule_led_1))
    (sk_ret (gk_make T.Rule (fun H => (drs_drop (T.Rule_init.d H) 2)) (ak_cons gk_var (ak_cons gk_var (ak_cons gk_var (ak_cons gk_var ak_nil))))))))))) : SOk K _ b_Rule_led)
theorem sc_Rule_scaled : FnScope nm_Rule_scaled pm_Rule_scaled (defScope s_Rule_scaled) := ⟨rfl, rfl, rfl, by decide +kernel, rfl, by decide +kernel, by decide +kernel⟩
theorem bi_Rule_scaled (T : Txt K mg) : Binds K T.Rule_scaled.fd pm_Rule_scaled [] := T.Rule_scaled.F.binds fun _ _ _ _ _ _ us hl => by obtain ⟨_, _, rfl⟩ := len2 hl; rfl
theorem kb_Rule_scaled_1 (T : Txt K mg) : KBn K T.Rule_scaled.fd pm_Rule_scaled 1 ["factor"] (fun us ws => pick [0, 1] (us ++ (ws ++ []))) (fun vs zs => pick [0, 1] (vs ++ (zs ++ []))) :=
  kb_F T.Rule_scaled.F 1 _ _ fun _ _ _ _ _ _ us ws h1 h2 => by obtain ⟨_, rfl⟩ := ln1 h1; obtain ⟨_, rfl⟩ := ln1 h2; rfl
theorem ok_Rule_scaled (T : Txt K mg) : FnOk P w K mg base CX0 8 T.Rule_scaled.f T.Rule_scaled.fd pm_Rule_scaled (spF K r_Rule_scaled) := by
  have nd := sc_Rule_scaled.nd
  refine data_F T.Rule_scaled.F sc_Rule_scaled fun cdv A outer s H E hr => ?_
  refine ⟨_, (pss_cons (ps_set (i := 2) nd rfl (Or.inr rfl) (pe_call (ok_value_of T) (hr.mono (by decide)) rfl T.value_of.m T.value_of.F.kp (bi_value_of T) .nil pass0 (pa_cons (pv 1) pa_nil)))
    (pss_cons (ps_setLc (i := 3) (own := [("point", 4), ("weight", 5)]) rfl nd rfl rfl (sw_true rfl rfl rfl (by decide +kernel)) (kpi_seq (K := K) rfl (kpe_fld (K := K) rfl (pv 0) rfl)) (blkOk_by (N := nm_Rule_scaled) (sc := defScope s_Rule_scaled) (by decide +kernel)) (fun _ _ _ _ _ => (kpg_tup (K := K) (n := 2) rfl rfl (pgs_cons (pg_name (i := 4) nd rfl (Or.inl rfl)) (pgs_cons (pg_name (i := 5) nd rfl (Or.inl rfl)) pgs_nil)))) (fun _ _ _ _ _ => pts_nil) (fun _ _ _ _ _ => (pe_tup (pa_cons (pv 4) (pa_cons (pe_call (ok_multiplied T) (hr.mono (by decide)) rfl T.multiplied.m T.multiplied.F.kp (bi_multiplied T) .nil pass0 (pa_cons (pv 5) (pa_cons (pv 2) pa_nil))) pa_nil)))))
    (pss_one (ps_ret (pe_make T.mk_Rule (ok_Rule_init T) (hr.mono (by decide)) rfl T.Rule.mg (bi_Rule_init_5 T).choose_spec.2 (bi_Rule_init_5 T).choose_spec.1 pass0 (pa_cons (kpe_fld (K := K) rfl (pv 0) rfl) (pa_cons (kpe_fld (K := K) rfl (pv 0) rfl) (pa_cons (pv 3) (pa_cons (pe_lc (own := [("part", 6)]) rfl nd (kpi_seq (K := K) rfl (kpe_fld (K := K) rfl (pv 0) rfl)) (blkOk_by (N := nm_Rule_scaled) (sc := defScope s_Rule_scaled) (by decide +kernel)) (fun _ _ _ _ _ => (pg_name (i := 6) nd rfl (Or.inl rfl))) (fun _ _ _ _ _ => pts_nil) (fun _ _ _ _ _ => (pe_tup (kpa_star (K := K) rfl (pe_slice (ksl_B (K := K) rfl) (pv 6) po_none (po_some pe_int)) (pa_cons (pe_call (ok_multiplied T) (hr.mono (by decide)) rfl T.multiplied.m T.multiplied.F.kp (bi_multiplied T) .nil pass0 (pa_cons (pe_ix (kix (K := K) rfl) (pv 6) pe_int (fun _ _ => rfl)) (pa_cons (pv 2) pa_nil))) pa_nil))))) pa_nil))))))))), ?_⟩
  exact ((sk_seq (sk_set (gk_call (ak_cons gk_var ak_nil)))
    (sk_seq (sk_set (gk_lc (ik_seq (gk_fld T.Rule rfl gk_var)) (gt_tup (gts_cons gt_name (gts_cons gt_name gts_nil))) tk_yes (gk_tup (ak_cons gk_var (ak_cons (gk_call (ak_cons gk_var (ak_cons gk_var ak_nil))) ak_nil))) (by decide)))
    (sk_ret (gk_make T.Rule (fun H => (drs_drop (T.Rule_init.d H) 2)) (ak_cons (gk_fld T.Rule rfl gk_var) (ak_cons (gk_fld T.Rule rfl gk_var) (ak_cons gk_var (ak_cons (gk_lc (ik_seq (gk_fld T.Rule rfl gk_var)) gt_name tk_yes (gk_tup (ak_star (gk_sl sd_B gk_var pk_none (pk_some gk_int)) (ak_cons (gk_call (ak_cons (gk_op od_ix gk_var gk_int) (ak_cons gk_var ak_nil))) ak_nil))) (by decide)) ak_nil)))))))) : SOk K _ b_Rule_scaled)
theorem sc_area : FnScope nm_area pm_area (defScope s_area) := ⟨rfl, rfl, rfl, by decide +kernel, rfl, by decide +kernel, by decide +kernel⟩
theorem bi_area (T : Txt K mg) : Binds K T.area.fd pm_area [] := T.area.F.binds fun _ _ _ _ _ _ us hl => by obtain ⟨_, _, rfl⟩ := len2 hl; rfl
theorem kb_area_1 (T : Txt K mg) : KBn K T.area.fd pm_area 0 ["high", "low"] (fun us ws => pick [1, 0] (us ++ (ws ++ []))) (fun vs zs => pick [1, 0] (vs ++ (zs ++ []))) :=
  kb_F T.area.F 0 _ _ fun _ _ _ _ _ _ us ws h1 h2 => by obtain ⟨rfl⟩ := ln0 h1; obtain ⟨_, _, rfl⟩ := ln2 h2; rfl
theorem ok_area (T : Txt K mg) : FnOk P w K mg base CX0 8 T.area.f T.area.fd pm_area (spF K r_area) := by
  have nd := sc_area.nd
  refine data_F T.area.F sc_area fun cdv A outer s H E hr => ?_
  refine ⟨_, (pss_cons (ps_asg (pe_call (ok_need_stretch T) (hr.mono (by decide)) rfl T.need_stretch.m T.need_stretch.F.kp (bi_need_stretch T) .nil pass0 (pa_cons (pv 0) (pa_cons (pv 1) pa_nil))) (kpg_tup (K := K) (n := 2) rfl rfl (pgs_cons (pg_name (i := 2) nd rfl (Or.inl rfl)) (pgs_cons (pg_name (i := 3) nd rfl (Or.inl rfl)) pgs_nil))))
    (pss_one (ps_ret (pe_make T.mk_Rule (ok_Rule_init T) (hr.mono (by decide)) rfl T.Rule.mg (bi_Rule_init_5 T).choose_spec.2 (bi_Rule_init_5 T).choose_spec.1 pass0 (pa_cons (pv 2) (pa_cons (pv 3) (pa_cons (pe_lst pa_nil) (pa_cons (pe_lst (pa_cons (pe_tup (pa_cons (pv 2) (pa_cons (pv 3) (pa_cons pe_int pa_nil)))) pa_nil)) pa_nil)))))))), ?_⟩
  exact ((sk_seq (sk_asg (gk_call (ak_cons gk_var (ak_cons gk_var ak_nil))) (gt_tup (gts_cons gt_name (gts_cons gt_name gts_nil))))
    (sk_ret (gk_make T.Rule (fun H => (drs_drop (T.Rule_init.d H) 2)) (ak_cons gk_var (ak_cons gk_var (ak_cons (gk_lst ak_nil) (ak_cons (gk_lst (ak_cons (gk_tup (ak_cons gk_var (ak_cons gk_var (ak_cons gk_int ak_nil)))) ak_nil)) ak_nil))))))) : SOk K _ b_area)
theorem sc_need_points : FnScope nm_need_points pm_need_points (defScope s_need_points) := ⟨rfl, rfl, rfl, by decide +kernel, rfl, by decide +kernel, by decide +kernel⟩
theorem bi_need_points (T : Txt K mg) : Binds K T.need_points.fd pm_need_points [] := T.need_points.F.binds fun _ _ _ _ _ _ us hl => by obtain ⟨_, _, _, rfl⟩ := len3 hl; rfl
theorem ok_need_points (T : Txt K mg) : FnOk P w K mg base CX0 5 T.need_points.f T.need_points.fd pm_need_points (spF K r_need_points) := by
  have nd := sc_need_points.nd
  refine data_F T.need_points.F sc_need_points fun cdv A outer s H E hr => ?_
  refine ⟨_, (pss_cons (ps_if (PW.pt (pw_or (pt_not (kpt_tru (K := K) rfl (pe_call (ok_is_sequence T) (hr.mono (by decide)) rfl T.is_sequence.m T.is_sequence.F.kp (bi_is_sequence T) .nil pass0 (pa_cons (pv 2) pa_nil)) (by intro _; rfl))) (pw_or1 (pt_cmpR (kop_eq (K := K) rfl hr.units) (pe_callB (kcr_len (K := K) rfl) (by rfl) T.len (by decide +kernel) (pa_cons (pv 2) pa_nil)) pe_int (nomark _))))) (pss_one ps_never) pss_nil)
    (pss_cons (ps_set (i := 3) nd rfl (Or.inl rfl) (pe_lst pa_nil))
    (pss_cons (ps_for PassesOwn.never rfl (kpi_enumA (K := K) rfl rfl T.enumerate (pa_cons (pv 2) pa_nil)) (kpg_tup (K := K) (n := 2) rfl rfl (pgs_cons (pg_name (i := 4) nd rfl (Or.inl rfl)) (pgs_cons (pg_name (i := 5) nd rfl (Or.inl rfl)) pgs_nil))) (pss_cons (ps_if (PW.pt (pw_or (pt_not (kpt_tru (K := K) rfl (pe_call (ok_is_between T) (hr.mono (by decide)) rfl T.is_between.m T.is_between.F.kp (bi_is_between T) .nil pass0 (pa_cons (pv 5) (pa_cons (pv 0) (pa_cons (pv 1) pa_nil)))) (by intro _; rfl))) (pw_or1 (PW.pt (pw_and (pt_cmpR op_gt (pv 4) pe_int (nomark _)) (pw_and1 (pt_not (kpt_tru (K := K) rfl (pe_call (ok_is_less T) (hr.mono (by decide)) rfl T.is_less.m T.is_less.F.kp (bi_is_less T) .nil pass0 (pa_cons (pe_ix (kix (K := K) rfl) (pv 3) (pe_un un_neg pe_int) (fun _ _ => rfl)) (pa_cons (pe_call (ok_value_of T) (hr.mono (by decide)) rfl T.value_of.m T.value_of.F.kp (bi_value_of T) .nil pass0 (pa_cons (pv 5) pa_nil)) pa_nil))) (by intro _; rfl))))))))) (pss_one ps_never) pss_nil)
    (pss_one (ps_expr (kpe_app (K := K) rfl (pv 3) (pe_call (ok_value_of T) (hr.mono (by decide)) rfl T.value_of.m T.value_of.F.kp (bi_value_of T) .nil pass0 (pa_cons (pv 5) pa_nil)))))))
    (pss_one (ps_ret (pv 3)))))), ?_⟩
  exact ((sk_seq (sk_if (tk_or (tk_not (tk_truK (gk_call (ak_cons gk_var ak_nil)))) (tk_test (gk_op od_eq (gk_cb cd_len (ak_cons gk_var ak_nil)) gk_int))) sk_never sk_next)
    (sk_seq (sk_set (gk_lst ak_nil))
    (sk_seq (sk_for (ik_enumA (ak_cons gk_var ak_nil)) (gt_tup (gts_cons gt_name (gts_cons gt_name gts_nil))) ((sk_seq (sk_if (tk_or (tk_not (tk_truK (gk_call (ak_cons gk_var (ak_cons gk_var (ak_cons gk_var ak_nil)))))) (tk_and (tk_test (gk_op od_gt gk_var gk_int)) (tk_not (tk_truK (gk_call (ak_cons (gk_by (gk_ixv (gk_un ud_neg gk_int)) (gk_op od_ix gk_var (gk_un ud_neg gk_int))) (ak_cons (gk_call (ak_cons gk_var ak_nil)) ak_nil))))))) sk_never sk_next)
    (sk_app (gk_call (ak_cons gk_var ak_nil)))) : SOk K _ b_need_points_1))
    (sk_ret gk_mv)))) : SOk K _ b_need_points)
theorem sc_powers_of : FnScope nm_powers_of pm_powers_of (defScope s_powers_of) := ⟨rfl, rfl, rfl, by decide +kernel, rfl, by decide +kernel, by decide +kernel⟩
theorem bi_powers_of (T : Txt K mg) : Binds K T.powers_of.fd pm_powers_of [] := T.powers_of.F.binds fun _ _ _ _ _ _ us hl => by obtain ⟨_, _, rfl⟩ := len2 hl; rfl
theorem ok_powers_of (T : Txt K mg) : FnOk P w K mg base CX0 4 T.powers_of.f T.powers_of.fd pm_powers_of (spF K r_powers_of) := by
  have nd := sc_powers_of.nd
  refine data_F T.powers_of.F sc_powers_of fun cdv A outer s H E hr => ?_
  refine ⟨_, (pss_cons (ps_set (i := 2) nd rfl (Or.inl rfl) (pe_lst (pa_cons (pe_glob rfl T.ONE.m T.ONE.r) pa_nil)))
    (pss_cons (ps_for PassesOwn.never rfl (kpi_seq (K := K) rfl (pv 1)) (pg_name (i := 3) nd rfl (Or.inr rfl)) (pss_cons (ps_set (i := 4) nd rfl (Or.inr rfl) (pe_call (ok_less_by T) (hr.mono (by decide)) rfl T.less_by.m T.less_by.F.kp (bi_less_by T) .nil pass0 (pa_cons (pv 0) (pa_cons (pv 3) pa_nil))))
    (pss_cons (ps_setLc (i := 5) (own := [("one", 6)]) rfl nd rfl rfl (sw_true rfl rfl rfl (by decide +kernel)) (kpi_seq (K := K) rfl (pe_lst (kpa_star (K := K) rfl (pv 2) (pa_cons (pe_glob rfl T.NOUGHT.m T.NOUGHT.r) pa_nil)))) (blkOk_by (N := nm_powers_of) (sc := defScope s_powers_of) (by decide +kernel)) (fun _ _ _ _ _ => (pg_name (i := 6) nd rfl (Or.inl rfl))) (fun _ _ _ _ _ => pts_nil) (fun _ _ _ _ _ => (pe_call (ok_multiplied T) (hr.mono (by decide)) rfl T.multiplied.m T.multiplied.F.kp (bi_multiplied T) .nil pass0 (pa_cons (pv 6) (pa_cons (pv 3) pa_nil)))))
    (pss_one (ps_setLc (i := 2) (own := [("high", 7), ("low", 8)]) rfl nd rfl rfl (sw_true rfl rfl rfl (by decide +kernel)) (kpi_zipA (K := K) rfl rfl T.zip (pa_cons (pe_lst (pa_cons (pe_glob rfl T.NOUGHT.m T.NOUGHT.r) (kpa_star (K := K) rfl (pv 2) pa_nil))) (pa_cons (pv 5) pa_nil))) (blkOk_by (N := nm_powers_of) (sc := defScope s_powers_of) (by decide +kernel)) (fun _ _ _ _ _ => (kpg_tup (K := K) (n := 2) rfl rfl (pgs_cons (pg_name (i := 7) nd rfl (Or.inl rfl)) (pgs_cons (pg_name (i := 8) nd rfl (Or.inl rfl)) pgs_nil)))) (fun _ _ _ _ _ => pts_nil) (fun _ _ _ _ _ => (pe_call (ok_quotient T) (hr.mono (by decide)) rfl T.quotient.m T.quotient.F.kp (bi_quotient T) .nil pass0 (pa_cons (pe_call (ok_less_by T) (hr.mono (by decide)) rfl T.less_by.m T.less_by.F.kp (bi_less_by T) .nil pass0 (pa_cons (pv 7) (pa_cons (pv 8) pa_nil))) (pa_cons (pv 4) pa_nil)))))))))
    (pss_one (ps_ret (pv 2))))), ?_⟩
  exact ((sk_seq (sk_set (gk_lst (ak_cons (gk_c T.ONE.d) ak_nil)))
    (sk_seq (sk_for (ik_seq gk_var) gt_name ((sk_seq (sk_set (gk_call (ak_cons gk_var (ak_cons gk_var ak_nil))))
    (sk_seq (sk_set (gk_lc (ik_seq (gk_lst (ak_star gk_var (ak_cons (gk_c T.NOUGHT.d) ak_nil)))) gt_name tk_yes (gk_call (ak_cons gk_var (ak_cons gk_var ak_nil))) (by decide)))
    (sk_set (gk_lc (ik_zipA (ak_cons (gk_lst (ak_cons (gk_c T.NOUGHT.d) (ak_star gk_var ak_nil))) (ak_cons gk_var ak_nil))) (gt_tup (gts_cons gt_name (gts_cons gt_name gts_nil))) tk_yes (gk_call (ak_cons (gk_call (ak_cons gk_var (ak_cons gk_var ak_nil))) (ak_cons gk_var ak_nil))) (by decide))))) : SOk K _ b_powers_of_1))
    (sk_ret gk_mv))) : SOk K _ b_powers_of)
theorem sc_best : FnScope nm_best pm_best (defScope s_best) := ⟨rfl, rfl, rfl, by decide +kernel, rfl, by decide +kernel, by decide +kernel⟩
theorem kb_best_1 (T : Txt K mg) : KBn K T.best.fd pm_best 0 ["points", "high", "low"] (fun us ws => pick [2, 1, 0] (us ++ (ws ++ []))) (fun vs zs => pick [2, 1, 0] (vs ++ (zs ++ []))) :=
  kb_F T.best.F 0 _ _ fun _ _ _ _ _ _ us ws h1 h2 => by obtain ⟨rfl⟩ := ln0 h1; obtain ⟨_, _, _, rfl⟩ := ln3 h2; rfl
theorem ok_best (T : Txt K mg) : FnOk P w K mg base CX0 9 T.best.f T.best.fd pm_best (spF K r_best) := by
  have nd := sc_best.nd
  refine data_F T.best.F sc_best fun cdv A outer s H E hr => ?_
  refine ⟨_, (pss_cons (ps_asg (pe_call (ok_need_stretch T) (hr.mono (by decide)) rfl T.need_stretch.m T.need_stretch.F.kp (bi_need_stretch T) .nil pass0 (pa_cons (pv 0) (pa_cons (pv 1) pa_nil))) (kpg_tup (K := K) (n := 2) rfl rfl (pgs_cons (pg_name (i := 3) nd rfl (Or.inl rfl)) (pgs_cons (pg_name (i := 4) nd rfl (Or.inl rfl)) pgs_nil))))
    (pss_cons (ps_set (i := 5) nd rfl (Or.inl rfl) (pe_call (ok_need_points T) (hr.mono (by decide)) rfl T.need_points.m T.need_points.F.kp (bi_need_points T) .nil pass0 (pa_cons (pv 3) (pa_cons (pv 4) (pa_cons (pv 2) pa_nil)))))
    (pss_cons (ps_par (i := 6) (j := 7) rfl nd rfl rfl (by decide) rfl rfl (pa_cons (pe_call (ok_area T) (hr.mono (by decide)) rfl T.area.m T.area.F.kp (bi_area T) .nil pass0 (pa_cons (pv 3) (pa_cons (pv 4) pa_nil))) (pa_cons (pe_lst pa_nil) pa_nil)) (by rfl))
    (pss_cons (ps_for PassesOwn.never rfl (kpi_seq (K := K) rfl (pv 5)) (pg_name (i := 8) nd rfl (Or.inr rfl)) (pss_one (ps_expr (kpe_app (K := K) rfl (pv 7) (pe_tup (pa_cons (pv 8) (pa_cons (pe_call (ok_told T) (hr.mono (by decide)) rfl T.told.m T.told.F.kp (bi_told T) .nil pass0 (pa_cons (pv 6) (pa_cons (pe_call (ok_powers_of T) (hr.mono (by decide)) rfl T.powers_of.m T.powers_of.F.kp (bi_powers_of T) .nil pass0 (pa_cons (pv 8) (pa_cons (pe_lc (own := [("other", 9)]) rfl nd (kpi_seq (K := K) rfl (pv 5)) (blkOk_by (N := nm_best) (sc := defScope s_best) (by decide +kernel)) (fun _ _ _ _ _ => (pg_name (i := 9) nd rfl (Or.inl rfl))) (fun _ _ _ _ _ => (pts_one (pt_cmpR (kop_ne (K := K) rfl hr.units) (pv 9) (pv 8) (nomark _)))) (fun _ _ _ _ _ => (pv 9))) pa_nil))) pa_nil))) pa_nil)))))))
    (pss_one (ps_ret (pe_make T.mk_Rule (ok_Rule_init T) (hr.mono (by decide)) rfl T.Rule.mg (bi_Rule_init_4 T).choose_spec.2 (bi_Rule_init_4 T).choose_spec.1 pass0 (pa_cons (pv 3) (pa_cons (pv 4) (pa_cons (pv 7) pa_nil)))))))))), ?_⟩
  exact ((sk_seq (sk_asg (gk_call (ak_cons gk_var (ak_cons gk_var ak_nil))) (gt_tup (gts_cons gt_name (gts_cons gt_name gts_nil))))
    (sk_seq (sk_set (gk_call (ak_cons gk_var (ak_cons gk_var (ak_cons gk_var ak_nil)))))
    (sk_seq (sk_ypar (yk_cons (gk_call (ak_cons gk_var (ak_cons gk_var ak_nil))) (yk_cons (gk_lst ak_nil) yk_nil)))
    (sk_seq (sk_for (ik_seq gk_var) gt_name ((sk_app (gk_tup (ak_cons gk_var (ak_cons (gk_call (ak_cons gk_var (ak_cons (gk_call (ak_cons gk_var (ak_cons (gk_lc (ik_seq gk_var) gt_name (tk_test (gk_op od_ne gk_var gk_var)) gk_var (by decide)) ak_nil))) ak_nil))) ak_nil)))) : SOk K _ b_best_1))
    (sk_ret (gk_make T.Rule (fun H => (drs_drop (T.Rule_init.d H) 1)) (ak_cons gk_var (ak_cons gk_var (ak_cons gk_var ak_nil))))))))) : SOk K _ b_best)
theorem sc_best_kinds : FnScope nm_best_kinds pm_best_kinds (defScope s_best_kinds) := ⟨rfl, rfl, rfl, by decide +kernel, rfl, by decide +kernel, by decide +kernel⟩
theorem kb_best_kinds_1 (T : Txt K mg) : KBn K T.best_kinds.fd pm_best_kinds 0 ["most", "other", "one"] (fun us ws => pick [2, 1, 0] (us ++ (ws ++ []))) (fun vs zs => pick [2, 1, 0] (vs ++ (zs ++ []))) :=
  kb_F T.best_kinds.F 0 _ _ fun _ _ _ _ _ _ us ws h1 h2 => by obtain ⟨rfl⟩ := ln0 h1; obtain ⟨_, _, _, rfl⟩ := ln3 h2; rfl
theorem ok_best_kinds (T : Txt K mg) : FnOk P w K mg base CX0 11 T.best_kinds.f T.best_kinds.fd pm_best_kinds (spF K r_best_kinds) := by
  have nd := sc_best_kinds.nd
  refine data_F T.best_kinds.F sc_best_kinds fun cdv A outer s H E hr => ?_
  refine ⟨_, (pss_cons (ps_if (pt_cmpR (kop_ne (K := K) rfl hr.units) (pe_tup (pa_cons (kpe_fld (K := K) rfl (pv 0) rfl) (pa_cons (kpe_fld (K := K) rfl (pv 0) rfl) pa_nil))) (pe_tup (pa_cons (kpe_fld (K := K) rfl (pv 1) rfl) (pa_cons (kpe_fld (K := K) rfl (pv 1) rfl) pa_nil))) (nomark _)) (pss_one ps_never) pss_nil)
    (pss_one (ps_ret (pe_callTy (kcr_tuple (K := K) rfl) (by rfl) T.tuple (by decide +kernel) (pa_cons (pe_lc (own := [("n", 3)]) rfl nd (pi_range1 rfl T.range (pa_cons (pe_op (kop_addB (K := K) rfl) (pv 2) pe_int) pa_nil)) (blkOk_by (N := nm_best_kinds) (sc := defScope s_best_kinds) (by decide +kernel)) (fun _ _ _ _ _ => (pg_name (i := 3) nd rfl (Or.inl rfl))) (fun _ _ _ _ _ => (pts_one (pt_cmpR (kop_ne (K := K) rfl hr.units) (pe_call (ok_compare T) (hr.mono (by decide)) rfl T.compare.m T.compare.F.kp (bi_compare T) .nil pass0 (pa_cons (pv 0) (pa_cons (pv 1) (pa_cons (pv 3) pa_nil)))) pe_str (nomark _)))) (fun _ _ _ _ _ => (pv 3))) pa_nil))))), ?_⟩
  exact ((sk_seq (sk_if (tk_test (gk_op od_ne (gk_tup (ak_cons (gk_fld T.Rule rfl gk_var) (ak_cons (gk_fld T.Rule rfl gk_var) ak_nil))) (gk_tup (ak_cons (gk_fld T.Rule rfl gk_var) (ak_cons (gk_fld T.Rule rfl gk_var) ak_nil))))) sk_never sk_next)
    (sk_ret (gk_cb cd_tuple (ak_cons (gk_lc (ik_range1 (ak_cons (gk_op od_addB gk_var gk_int) ak_nil)) gt_name (tk_test (gk_op od_ne (gk_call (ak_cons gk_var (ak_cons gk_var (ak_cons gk_var ak_nil)))) gk_str)) gk_var (by decide)) ak_nil)))) : SOk K _ b_best_kinds)
theorem sc_brackets : FnScope nm_brackets pm_brackets (defScope s_brackets) := ⟨rfl, rfl, rfl, by decide +kernel, rfl, by decide +kernel, by decide +kernel⟩
theorem kb_brackets_1 (T : Txt K mg) : KBn K T.brackets.fd pm_brackets 0 ["n", "rules"] (fun us ws => pick [1, 0] (us ++ (ws ++ []))) (fun vs zs => pick [1, 0] (vs ++ (zs ++ []))) :=
  kb_F T.brackets.F 0 _ _ fun _ _ _ _ _ _ us ws h1 h2 => by obtain ⟨rfl⟩ := ln0 h1; obtain ⟨_, _, rfl⟩ := ln2 h2; rfl
theorem ok_brackets (T : Txt K mg) : FnOk P w K mg base CX0 11 T.brackets.f T.brackets.fd pm_brackets (spF K r_brackets) := by
  have nd := sc_brackets.nd
  refine data_F T.brackets.F sc_brackets fun cdv A outer s H E hr => ?_
  refine ⟨_, (pss_cons (ps_setLc (i := 2) (own := [("rule", 4)]) rfl nd rfl rfl (sw_true rfl rfl rfl (by decide +kernel)) (kpi_seq (K := K) rfl (pv 0)) (blkOk_by (N := nm_brackets) (sc := defScope s_brackets) (by decide +kernel)) (fun _ _ _ _ _ => (pg_name (i := 4) nd rfl (Or.inl rfl))) (fun _ _ _ _ _ => pts_nil) (fun _ _ _ _ _ => (pe_call (ok_compare T) (hr.mono (by decide)) rfl T.compare.m T.compare.F.kp (bi_compare T) .nil pass0 (pa_cons (pv 4) (pa_cons (pe_call (ok_area T) (hr.mono (by decide)) rfl T.area.m T.area.F.kp (bi_area T) .nil pass0 (pa_cons (kpe_fld (K := K) rfl (pv 4) rfl) (pa_cons (kpe_fld (K := K) rfl (pv 4) rfl) pa_nil))) (pa_cons (pv 1) pa_nil))))))
    (pss_cons (ps_set (i := 3) nd rfl (Or.inl rfl) (pe_callTy (kcr_tuple (K := K) rfl) (by rfl) T.tuple (by decide +kernel) (pa_cons (pe_lc (own := [("at", 5), ("word", 6)]) rfl nd (kpi_enumA (K := K) rfl rfl T.enumerate (pa_cons (pv 2) pa_nil)) (blkOk_by (N := nm_brackets) (sc := defScope s_brackets) (by decide +kernel)) (fun _ _ _ _ _ => (kpg_tup (K := K) (n := 2) rfl rfl (pgs_cons (pg_name (i := 5) nd rfl (Or.inl rfl)) (pgs_cons (pg_name (i := 6) nd rfl (Or.inl rfl)) pgs_nil)))) (fun _ _ _ _ _ => (pts_one (pt_cmpR (kop_inB (K := K) rfl (r70 hr)) (pv 6) (pe_tup (pa_cons pe_str (pa_cons pe_str pa_nil))) (by rfl)))) (fun _ _ _ _ _ => (pv 5))) pa_nil)))
    (pss_one (ps_ret (pe_tup (pa_cons (pv 3) (pa_cons (pe_callTy (kcr_tuple (K := K) rfl) (by rfl) T.tuple (by decide +kernel) (pa_cons (pe_lc (own := [("at", 5), ("word", 6)]) rfl nd (kpi_enumA (K := K) rfl rfl T.enumerate (pa_cons (pv 2) pa_nil)) (blkOk_by (N := nm_brackets) (sc := defScope s_brackets) (by decide +kernel)) (fun _ _ _ _ _ => (kpg_tup (K := K) (n := 2) rfl rfl (pgs_cons (pg_name (i := 5) nd rfl (Or.inl rfl)) (pgs_cons (pg_name (i := 6) nd rfl (Or.inl rfl)) pgs_nil)))) (fun _ _ _ _ _ => (pts_one (pt_cmpR (kop_inB (K := K) rfl (r70 hr)) (pv 6) (pe_tup (pa_cons pe_str (pa_cons pe_str pa_nil))) (by rfl)))) (fun _ _ _ _ _ => (pv 5))) pa_nil)) pa_nil))))))), ?_⟩
  exact ((sk_seq (sk_set (gk_lc (ik_seq gk_var) gt_name tk_yes (gk_call (ak_cons gk_var (ak_cons (gk_call (ak_cons (gk_fld T.Rule rfl gk_var) (ak_cons (gk_fld T.Rule rfl gk_var) ak_nil))) (ak_cons gk_var ak_nil)))) (by decide)))
    (sk_seq (sk_set (gk_cb cd_tuple (ak_cons (gk_lc (ik_enumA (ak_cons gk_var ak_nil)) (gt_tup (gts_cons gt_name (gts_cons gt_name gts_nil))) (tk_test (gk_op od_inB gk_var (gk_tup (ak_cons gk_str (ak_cons gk_str ak_nil))))) gk_var (by decide)) ak_nil)))
    (sk_ret (gk_tup (ak_cons gk_var (ak_cons (gk_cb cd_tuple (ak_cons (gk_lc (ik_enumA (ak_cons gk_var ak_nil)) (gt_tup (gts_cons gt_name (gts_cons gt_name gts_nil))) (tk_test (gk_op od_inB gk_var (gk_tup (ak_cons gk_str (ak_cons gk_str ak_nil))))) gk_var (by decide)) ak_nil)) ak_nil)))))) : SOk K _ b_brackets)
theorem sc_finer : FnScope nm_finer pm_finer (defScope s_finer) := ⟨rfl, rfl, rfl, by decide +kernel, rfl, by decide +kernel, by decide +kernel⟩
theorem bi_finer (T : Txt K mg) : Binds K T.finer.fd pm_finer [] := T.finer.F.binds fun _ _ _ _ _ _ us hl => by obtain ⟨_, _, rfl⟩ := len2 hl; rfl
theorem kb_finer_1 (T : Txt K mg) : KBn K T.finer.fd pm_finer 0 ["many", "rule"] (fun us ws => pick [1, 0] (us ++ (ws ++ []))) (fun vs zs => pick [1, 0] (vs ++ (zs ++ []))) :=
  kb_F T.finer.F 0 _ _ fun _ _ _ _ _ _ us ws h1 h2 => by obtain ⟨rfl⟩ := ln0 h1; obtain ⟨_, _, rfl⟩ := ln2 h2; rfl
theorem ok_finer (T : Txt K mg) : FnOk P w K mg base CX0 9 T.finer.f T.finer.fd pm_finer (spF K r_finer) := by
  have nd := sc_finer.nd
  refine data_F T.finer.F sc_finer fun cdv A outer s H E hr => ?_
  refine ⟨_, (pss_cons (ps_set (i := 2) nd rfl (Or.inl rfl) (pe_call (ok_quotient T) (hr.mono (by decide)) rfl T.quotient.m T.quotient.F.kp (bi_quotient T) .nil pass0 (pa_cons (pe_call (ok_less_by T) (hr.mono (by decide)) rfl T.less_by.m T.less_by.F.kp (bi_less_by T) .nil pass0 (pa_cons (kpe_fld (K := K) rfl (pv 0) rfl) (pa_cons (kpe_fld (K := K) rfl (pv 0) rfl) pa_nil))) (pa_cons (pe_tup (pa_cons (pv 1) (pa_cons pe_int pa_nil))) pa_nil))))
    (pss_cons (ps_set (i := 3) nd rfl (Or.inl rfl) (pe_make T.mk_Rule (ok_Rule_init T) (hr.mono (by decide)) rfl T.Rule.mg (bi_Rule_init_3 T).choose_spec.2 (bi_Rule_init_3 T).choose_spec.1 pass0 (pa_cons (kpe_fld (K := K) rfl (pv 0) rfl) (pa_cons (kpe_fld (K := K) rfl (pv 0) rfl) pa_nil))))
    (pss_cons (ps_for PassesOwn.never rfl (pi_range1 rfl T.range (pa_cons (pv 1) pa_nil)) (pg_name (i := 4) nd rfl (Or.inl rfl)) (pss_cons (ps_set (i := 5) nd rfl (Or.inl rfl) (pe_call (ok_added T) (hr.mono (by decide)) rfl T.added.m T.added.F.kp (bi_added T) .nil pass0 (pa_cons (kpe_fld (K := K) rfl (pv 0) rfl) (pa_cons (pe_call (ok_multiplied T) (hr.mono (by decide)) rfl T.multiplied.m T.multiplied.F.kp (bi_multiplied T) .nil pass0 (pa_cons (pv 2) (pa_cons (pe_tup (pa_cons (pv 4) (pa_cons pe_int pa_nil))) pa_nil))) pa_nil))))
    (pss_cons (ps_set (i := 6) nd rfl (Or.inl rfl) (pe_meth (pv 0) T.Rule.cls T.Rule_led.m (ok_Rule_led T) (hr.mono (by decide)) (bi_Rule_led T) .nil pass0 (pa_cons (pv 5) (pa_cons (pe_call (ok_added T) (hr.mono (by decide)) rfl T.added.m T.added.F.kp (bi_added T) .nil pass0 (pa_cons (pv 5) (pa_cons (pv 2) pa_nil))) pa_nil))))
    (pss_one (ps_set (i := 3) nd rfl (Or.inl rfl) (pe_op (OpR.or (kop_addB (K := K) rfl) (op_bin (E := E0) T.sf_Rule T.Rule_add.m.at_ T.Rule_add.m.fn (ok_Rule_add T) (hr.mono (by decide)) (bi_Rule_add T) pass0)) (pv 3) (pe_make T.mk_Rule (ok_Rule_init T) (hr.mono (by decide)) rfl T.Rule.mg (bi_Rule_init_5 T).choose_spec.2 (bi_Rule_init_5 T).choose_spec.1 pass0 (pa_cons (kpe_fld (K := K) rfl (pv 0) rfl) (pa_cons (kpe_fld (K := K) rfl (pv 0) rfl) (pa_cons (kpe_fld (K := K) rfl (pv 6) rfl) (pa_cons (kpe_fld (K := K) rfl (pv 6) rfl) pa_nil)))))))))))
    (pss_one (ps_ret (pe_meth (pv 3) T.Rule.cls T.Rule_scaled.m (ok_Rule_scaled T) (hr.mono (by decide)) (bi_Rule_scaled T) .nil pass0 (pa_cons (pe_call (ok_lowest T) (hr.mono (by decide)) rfl T.lowest.m T.lowest.F.kp (bi_lowest T) .nil pass0 (pa_cons pe_int (pa_cons (pv 1) pa_nil))) pa_nil))))))), ?_⟩
  exact ((sk_seq (sk_set (gk_call (ak_cons (gk_call (ak_cons (gk_fld T.Rule rfl gk_var) (ak_cons (gk_fld T.Rule rfl gk_var) ak_nil))) (ak_cons (gk_tup (ak_cons gk_var (ak_cons gk_int ak_nil))) ak_nil))))
    (sk_seq (sk_set (gk_make T.Rule (fun H => (drs_drop (T.Rule_init.d H) 0)) (ak_cons (gk_fld T.Rule rfl gk_var) (ak_cons (gk_fld T.Rule rfl gk_var) ak_nil))))
    (sk_seq (sk_for (ik_range1 (ak_cons gk_var ak_nil)) gt_name ((sk_seq (sk_set (gk_call (ak_cons (gk_fld T.Rule rfl gk_var) (ak_cons (gk_call (ak_cons gk_var (ak_cons (gk_tup (ak_cons gk_var (ak_cons gk_int ak_nil))) ak_nil))) ak_nil))))
    (sk_seq (sk_set (gk_meth (nm := "led") T.Rule (by decide +kernel) (fun _ => .nil) gk_var (ak_cons gk_var (ak_cons (gk_call (ak_cons gk_var (ak_cons gk_var ak_nil))) ak_nil))))
    (sk_set (gk_op (od_own T.Rule.at_ od_addB) gk_var (gk_make T.Rule (fun H => (drs_drop (T.Rule_init.d H) 2)) (ak_cons (gk_fld T.Rule rfl gk_var) (ak_cons (gk_fld T.Rule rfl gk_var) (ak_cons (gk_fld T.Rule rfl gk_var) (ak_cons (gk_fld T.Rule rfl gk_var) ak_nil))))))))) : SOk K _ b_finer_1))
    (sk_ret (gk_meth (nm := "scaled") T.Rule (by decide +kernel) (fun _ => .nil) gk_var (ak_cons (gk_call (ak_cons gk_int (ak_cons gk_var ak_nil))) ak_nil)))))) : SOk K _ b_finer)
theorem sc_mixed : FnScope nm_mixed pm_mixed (defScope s_mixed) := ⟨rfl, rfl, rfl, by decide +kernel, rfl, by decide +kernel, by decide +kernel⟩
theorem kb_mixed_1 (T : Txt K mg) : KBn K T.mixed.fd pm_mixed 0 ["parts", "rule"] (fun us ws => pick [1, 0] (us ++ (ws ++ []))) (fun vs zs => pick [1, 0] (vs ++ (zs ++ []))) :=
  kb_F T.mixed.F 0 _ _ fun _ _ _ _ _ _ us ws h1 h2 => by obtain ⟨rfl⟩ := ln0 h1; obtain ⟨_, _, rfl⟩ := ln2 h2; rfl
theorem ok_mixed (T : Txt K mg) : FnOk P w K mg base CX0 10 T.mixed.f T.mixed.fd pm_mixed (spF K r_mixed) := by
  have nd := sc_mixed.nd
  refine data_F T.mixed.F sc_mixed fun cdv A outer s H E hr => ?_
  refine ⟨_, (pss_cons (ps_set (i := 2) nd rfl (Or.inl rfl) (pe_make T.mk_Rule (ok_Rule_init T) (hr.mono (by decide)) rfl T.Rule.mg (bi_Rule_init_3 T).choose_spec.2 (bi_Rule_init_3 T).choose_spec.1 pass0 (pa_cons (kpe_fld (K := K) rfl (pv 0) rfl) (pa_cons (kpe_fld (K := K) rfl (pv 0) rfl) pa_nil))))
    (pss_cons (ps_for PassesOwn.never rfl (kpi_seq (K := K) rfl (pv 1)) (pg_name (i := 3) nd rfl (Or.inl rfl)) (pss_cons (ps_set (i := 4) nd rfl (Or.inl rfl) (pe_glob rfl T.ONE.m T.ONE.r))
    (pss_cons (ps_for PassesOwn.never rfl (kpi_seq (K := K) rfl (pv 1)) (pg_name (i := 5) nd rfl (Or.inl rfl)) (pss_one (ps_if (pt_cmpR (kop_ne (K := K) rfl hr.units) (pv 5) (pv 3) (nomark _)) (pss_one (ps_set (i := 4) nd rfl (Or.inl rfl) (pe_call (ok_multiplied T) (hr.mono (by decide)) rfl T.multiplied.m T.multiplied.F.kp (bi_multiplied T) .nil pass0 (pa_cons (pv 4) (pa_cons (pe_call (ok_lowest T) (hr.mono (by decide)) rfl T.lowest.m T.lowest.F.kp (bi_lowest T) .nil pass0 (pa_cons (pe_op op_mulA (pv 3) (pv 3)) (pa_cons (pe_op op_subA (pe_op op_mulA (pv 3) (pv 3)) (pe_op op_mulA (pv 5) (pv 5))) pa_nil))) pa_nil))))) pss_nil)))
    (pss_one (ps_set (i := 2) nd rfl (Or.inl rfl) (pe_op (OpR.or (kop_addB (K := K) rfl) (op_bin (E := E0) T.sf_Rule T.Rule_add.m.at_ T.Rule_add.m.fn (ok_Rule_add T) (hr.mono (by decide)) (bi_Rule_add T) pass0)) (pv 2) (pe_meth (pe_call (ok_finer T) (hr.mono (by decide)) rfl T.finer.m T.finer.F.kp (bi_finer T) .nil pass0 (pa_cons (pv 0) (pa_cons (pv 3) pa_nil))) T.Rule.cls T.Rule_scaled.m (ok_Rule_scaled T) (hr.mono (by decide)) (bi_Rule_scaled T) .nil pass0 (pa_cons (pv 4) pa_nil))))))))
    (pss_one (ps_ret (pv 2))))), ?_⟩
  exact ((sk_seq (sk_set (gk_make T.Rule (fun H => (drs_drop (T.Rule_init.d H) 0)) (ak_cons (gk_fld T.Rule rfl gk_var) (ak_cons (gk_fld T.Rule rfl gk_var) ak_nil))))
    (sk_seq (sk_for (ik_seq gk_var) gt_name ((sk_seq (sk_set (gk_c T.ONE.d))
    (sk_seq (sk_for (ik_seq gk_var) gt_name ((sk_if (tk_test (gk_op od_ne gk_var gk_var)) (sk_set (gk_call (ak_cons gk_var (ak_cons (gk_call (ak_cons (gk_op od_mul gk_var gk_var) (ak_cons (gk_op od_sub (gk_op od_mul gk_var gk_var) (gk_op od_mul gk_var gk_var)) ak_nil))) ak_nil)))) sk_next) : SOk K _ b_mixed_1))
    (sk_set (gk_op (od_own T.Rule.at_ od_addB) gk_var (gk_meth (nm := "scaled") T.Rule (by decide +kernel) (fun _ => .nil) (gk_call (ak_cons gk_var (ak_cons gk_var ak_nil))) (ak_cons gk_var ak_nil)))))) : SOk K _ b_mixed_2))
    (sk_ret gk_mv))) : SOk K _ b_mixed)
theorem sc_w_made_right : FnScope nm_w_made_right pm_w_made_right (defScope s_w_made_right) := ⟨rfl, rfl, rfl, by decide +kernel, rfl, by decide +kernel, by decide +kernel⟩
theorem bi_w_made_right (T : Txt K mg) : Binds K T.w_made_right.fd pm_w_made_right [] := T.w_made_right.F.binds fun _ _ _ _ _ _ us hl => by obtain ⟨_, _, _, rfl⟩ := len3 hl; rfl
theorem ok_w_made_right (T : Txt K mg) : FnOk P w K mg base CX0 12 T.w_made_right.f T.w_made_right.fd pm_w_made_right (spF K r_w_made_right) := by
  have nd := sc_w_made_right.nd
  refine data_F T.w_made_right.F sc_w_made_right fun cdv A outer s H E hr => ?_
  refine ⟨_, (pss_cons (ps_if (PW.pt (pw_or (pt_cmpR (kop_ne (K := K) rfl hr.units) (pe_callN0 (ok_compare T) (hr.mono (by decide)) rfl T.compare.m T.compare.F.kp (kb_compare_1 T) pass0 (pk_cons pe_int (pk_cons (pv 2) (pk_cons (pv 1) pk_nil)))) pe_str (nomark _)) (pw_or1 (pt_cmpR (kop_ne (K := K) rfl hr.units) (pe_callN0 (ok_best_kinds T) (hr.mono (by decide)) rfl T.best_kinds.m T.best_kinds.F.kp (kb_best_kinds_1 T) pass0 (pk_cons pe_int (pk_cons (pv 2) (pk_cons (pv 0) pk_nil)))) (pe_tup (pa_cons pe_int pa_nil)) (nomark _))))) (pss_one (ps_ret pe_bl)) pss_nil)
    (pss_cons (ps_if (pt_cmpR (kop_ne (K := K) rfl hr.units) (pe_callN0 (ok_brackets T) (hr.mono (by decide)) rfl T.brackets.m T.brackets.F.kp (kb_brackets_1 T) pass0 (pk_cons pe_int (pk_cons (pe_lst (pa_cons (pv 1) (pa_cons (pv 0) pa_nil))) pk_nil))) (pe_tup (pa_cons (pe_tup (pa_cons pe_int pa_nil)) (pa_cons (pe_tup (pa_cons pe_int pa_nil)) pa_nil))) (nomark _)) (pss_one (ps_ret pe_bl)) pss_nil)
    (pss_cons (ps_set (i := 3) nd rfl (Or.inl rfl) (pe_callN0 (ok_best T) (hr.mono (by decide)) rfl T.best.m T.best.F.kp (kb_best_1 T) pass0 (pk_cons (pe_lst (pa_cons pe_int (pa_cons (pe_tup (pa_cons pe_int (pa_cons pe_int pa_nil))) (pa_cons pe_int pa_nil)))) (pk_cons pe_int (pk_cons pe_int pk_nil)))))
    (pss_cons (ps_if (PW.pt (pw_or (pt_cmpR (OpR.or (kop_ne (K := K) rfl hr.units) (op_neO (E := E0) T.Rule_eq.m.at_ T.Rule_eq.m.fn T.om_Rule T.on_Rule (ok_Rule_eq T) (hr.mono (by decide)) (bi_Rule_eq T) pass0)) (pe_callN0 (ok_mixed T) (hr.mono (by decide)) rfl T.mixed.m T.mixed.F.kp (kb_mixed_1 T) pass0 (pk_cons (pe_lst (pa_cons pe_int (pa_cons pe_int pa_nil))) (pk_cons (pv 0) pk_nil))) (pv 3) (nomark _)) (pw_or1 (pt_cmpR (kop_ne (K := K) rfl hr.units) (pe_ix (kix (K := K) rfl) (kpe_fld (K := K) rfl (pe_callN0 (ok_finer T) (hr.mono (by decide)) rfl T.finer.m T.finer.F.kp (kb_finer_1 T) pass0 (pk_cons pe_int (pk_cons (pv 0) pk_nil))) rfl) pe_int (fun _ _ => rfl)) (pe_tup (pa_cons (pe_tup (pa_cons pe_int (pa_cons pe_int pa_nil))) (pa_cons (pe_tup (pa_cons pe_int (pa_cons pe_int pa_nil))) pa_nil))) (nomark _))))) (pss_one (ps_ret pe_bl)) pss_nil)
    (pss_one (ps_ret (pe_cmpR (kop_eq (K := K) rfl hr.units) (pe_callN0 (ok_told T) (hr.mono (by decide)) rfl T.told.m T.told.F.kp (kb_told_1 T) pass0 (pk_cons (pe_lst (pa_cons pe_int (pa_cons pe_int (pa_cons pe_int (pa_cons pe_int (pa_cons pe_int pa_nil)))))) (pk_cons (pe_op (OpR.or op_subA (op_bin (E := E0) T.sf_Rule T.Rule_sub.m.at_ T.Rule_sub.m.fn (ok_Rule_sub T) (hr.mono (by decide)) (bi_Rule_sub T) pass0)) (pv 3) (pv 2)) pk_nil))) (pe_tup (pa_cons pe_int (pa_cons pe_int pa_nil))) (nomark _)))))))), ?_⟩
  exact ((sk_seq (sk_if (tk_or (tk_test (gk_op od_ne (gk_callK (is := [2, 1, 0]) (fun _ => .nil) ak_nil (ak_cons gk_int (ak_cons gk_var (ak_cons gk_var ak_nil)))) gk_str)) (tk_test (gk_op od_ne (gk_callK (is := [2, 1, 0]) (fun _ => .nil) ak_nil (ak_cons gk_int (ak_cons gk_var (ak_cons gk_var ak_nil)))) (gk_tup (ak_cons gk_int ak_nil))))) (sk_ret gk_bl) sk_next)
    (sk_seq (sk_if (tk_test (gk_op od_ne (gk_callK (is := [1, 0]) (fun _ => .nil) ak_nil (ak_cons gk_int (ak_cons (gk_lst (ak_cons gk_var (ak_cons gk_var ak_nil))) ak_nil))) (gk_tup (ak_cons (gk_tup (ak_cons gk_int ak_nil)) (ak_cons (gk_tup (ak_cons gk_int ak_nil)) ak_nil))))) (sk_ret gk_bl) sk_next)
    (sk_seq (sk_set (gk_callK (is := [2, 1, 0]) (fun _ => .nil) ak_nil (ak_cons (gk_lst (ak_cons gk_int (ak_cons (gk_tup (ak_cons gk_int (ak_cons gk_int ak_nil))) (ak_cons gk_int ak_nil)))) (ak_cons gk_int (ak_cons gk_int ak_nil)))))
    (sk_seq (sk_if (tk_or (tk_test (gk_op (od_ownNe T.Rule.at_ od_ne) (gk_callK (is := [1, 0]) (fun _ => .nil) ak_nil (ak_cons (gk_lst (ak_cons gk_int (ak_cons gk_int ak_nil))) (ak_cons gk_var ak_nil))) gk_var)) (tk_test (gk_op od_ne (gk_op od_ix (gk_fld T.Rule rfl (gk_callK (is := [1, 0]) (fun _ => .nil) ak_nil (ak_cons gk_int (ak_cons gk_var ak_nil)))) gk_int) (gk_tup (ak_cons (gk_tup (ak_cons gk_int (ak_cons gk_int ak_nil))) (ak_cons (gk_tup (ak_cons gk_int (ak_cons gk_int ak_nil))) ak_nil)))))) (sk_ret gk_bl) sk_next)
    (sk_ret (gk_op od_eq (gk_callK (is := [1, 0]) (fun _ => .nil) ak_nil (ak_cons (gk_lst (ak_cons gk_int (ak_cons gk_int (ak_cons gk_int (ak_cons gk_int (ak_cons gk_int ak_nil)))))) (ak_cons (gk_op (od_own T.Rule.at_ od_sub) gk_var gk_var) ak_nil))) (gk_tup (ak_cons gk_int (ak_cons gk_int ak_nil))))))))) : SOk K _ b_w_made_right)
theorem sc_w_number : FnScope nm_w_number pm_w_number (defScope s_w_number) := ⟨rfl, rfl, rfl, by decide +kernel, rfl, by decide +kernel, by decide +kernel⟩
theorem bi_w_number (T : Txt K mg) : Binds K T.w_number.fd pm_w_number [] := T.w_number.F.binds fun _ _ _ _ _ _ us hl => by obtain ⟨_, _, rfl⟩ := len2 hl; rfl
theorem ok_w_number (T : Txt K mg) : FnOk P w K mg base CX0 1 T.w_number.f T.w_number.fd pm_w_number (spF K r_w_number) := by
  have nd := sc_w_number.nd
  refine data_F T.w_number.F sc_w_number fun cdv A outer s H E hr => ?_
  refine ⟨_, (pss_cons (ps_set (i := 2) nd rfl (Or.inl rfl) (pe_op (kop_addB (K := K) rfl) pe_int (pv 1)))
    (pss_cons (ps_for PassesOwn.never rfl (kpi_seq (K := K) rfl (pe_slice (ksl_B (K := K) rfl) (pv 0) po_none (po_some pe_int))) (pg_name (i := 3) nd rfl (Or.inl rfl)) (pss_one (ps_set (i := 2) nd rfl (Or.inl rfl) (pe_op op_modA (pe_callTy cr_int (by rfl) T.int (by decide +kernel) (pa_cons (pe_op (kop_addB (K := K) rfl) (pe_op (kop_addB (K := K) rfl) (pe_op op_mulA (pv 2) pe_int) (pe_op op_modA (pe_callTy cr_int (by rfl) T.int (by decide +kernel) (pa_cons (pe_callB cr_abs (by rfl) T.abs (by decide +kernel) (pa_cons (pv 3) pa_nil)) pa_nil)) pe_int)) (pv 1)) pa_nil)) pe_int))))
    (pss_one (ps_ret (pe_op op_modA (pe_callTy cr_int (by rfl) T.int (by decide +kernel) (pa_cons (pe_op op_fdivA (pv 2) pe_int) pa_nil)) pe_int))))), ?_⟩
  exact ((sk_seq (sk_set (gk_op od_addB gk_int gk_var))
    (sk_seq (sk_for (ik_seq (gk_sl sd_B gk_var pk_none (pk_some gk_int))) gt_name ((sk_set (gk_op od_mod (gk_cb cd_int (ak_cons (gk_op od_addB (gk_op od_addB (gk_op od_mul gk_var gk_int) (gk_op od_mod (gk_cb cd_int (ak_cons (gk_cb cd_abs (ak_cons gk_var ak_nil)) ak_nil)) gk_int)) gk_var) ak_nil)) gk_int)) : SOk K _ b_w_number_1))
    (sk_ret (gk_op od_mod (gk_cb cd_int (ak_cons (gk_op od_fdiv gk_var gk_int) ak_nil)) gk_int)))) : SOk K _ b_w_number)
theorem sc_told_kink : FnScope nm_told_kink pm_told_kink (defScope s_told_kink) := ⟨rfl, rfl, rfl, by decide +kernel, rfl, by decide +kernel, by decide +kernel⟩
theorem kb_told_kink_1 (T : Txt K mg) : KBn K T.told_kink.fd pm_told_kink 0 ["power", "place", "rule"] (fun us ws => pick [2, 1, 0] (us ++ (ws ++ []))) (fun vs zs => pick [2, 1, 0] (vs ++ (zs ++ []))) :=
  kb_F T.told_kink.F 0 _ _ fun _ _ _ _ _ _ us ws h1 h2 => by obtain ⟨rfl⟩ := ln0 h1; obtain ⟨_, _, _, rfl⟩ := ln3 h2; rfl
theorem ok_told_kink (T : Txt K mg) : FnOk P w K mg base CX0 5 T.told_kink.f T.told_kink.fd pm_told_kink (spF K r_told_kink) := by
  have nd := sc_told_kink.nd
  refine data_F T.told_kink.F sc_told_kink fun cdv A outer s H E hr => ?_
  refine ⟨_, (pss_cons (ps_par (i := 3) (j := 4) rfl nd rfl rfl (by decide) rfl rfl (pa_cons (pe_call (ok_value_of T) (hr.mono (by decide)) rfl T.value_of.m T.value_of.F.kp (bi_value_of T) .nil pass0 (pa_cons (pv 1) pa_nil)) (pa_cons (pe_lst pa_nil) pa_nil)) (by rfl))
    (pss_cons (ps_for PassesOwn.never rfl (kpi_seq (K := K) rfl (kpe_fld (K := K) rfl (pv 0) rfl)) (kpg_tup (K := K) (n := 2) rfl rfl (pgs_cons (pg_name (i := 5) nd rfl (Or.inl rfl)) (pgs_cons (pg_name (i := 6) nd rfl (Or.inl rfl)) pgs_nil))) (pss_one (ps_if (kpt_tru (K := K) rfl (pe_call (ok_is_less T) (hr.mono (by decide)) rfl T.is_less.m T.is_less.F.kp (bi_is_less T) .nil pass0 (pa_cons (pv 3) (pa_cons (pv 5) pa_nil))) (by intro _; rfl)) (pss_one (ps_expr (kpe_app (K := K) rfl (pv 4) (pe_call (ok_multiplied T) (hr.mono (by decide)) rfl T.multiplied.m T.multiplied.F.kp (bi_multiplied T) .nil pass0 (pa_cons (pv 6) (pa_cons (pe_call (ok_powered T) (hr.mono (by decide)) rfl T.powered.m T.powered.F.kp (bi_powered T) .nil pass0 (pa_cons (pe_call (ok_less_by T) (hr.mono (by decide)) rfl T.less_by.m T.less_by.F.kp (bi_less_by T) .nil pass0 (pa_cons (pv 5) (pa_cons (pv 3) pa_nil))) (pa_cons (pv 2) pa_nil))) pa_nil)))))) pss_nil)))
    (pss_cons (ps_for PassesOwn.never rfl (kpi_seq (K := K) rfl (kpe_fld (K := K) rfl (pv 0) rfl)) (kpg_tup (K := K) (n := 3) rfl rfl (pgs_cons (pg_name (i := 7) nd rfl (Or.inl rfl)) (pgs_cons (pg_name (i := 8) nd rfl (Or.inl rfl)) (pgs_cons (pg_name (i := 9) nd rfl (Or.inl rfl)) pgs_nil)))) (pss_one (ps_if (kpt_tru (K := K) rfl (pe_call (ok_is_less T) (hr.mono (by decide)) rfl T.is_less.m T.is_less.F.kp (bi_is_less T) .nil pass0 (pa_cons (pv 3) (pa_cons (pv 8) pa_nil))) (by intro _; rfl)) (pss_cons (ps_set (i := 10) nd rfl (Or.inl rfl) (pe_call (ok_powered T) (hr.mono (by decide)) rfl T.powered.m T.powered.F.kp (bi_powered T) .nil pass0 (pa_cons (pe_call (ok_less_by T) (hr.mono (by decide)) rfl T.less_by.m T.less_by.F.kp (bi_less_by T) .nil pass0 (pa_cons (pv 8) (pa_cons (pv 3) pa_nil))) (pa_cons (pe_op (kop_addB (K := K) rfl) (pv 2) pe_int) pa_nil))))
    (pss_cons (ps_set (i := 11) nd rfl (Or.inl rfl) (pe_ifExp (kpt_tru (K := K) rfl (pe_call (ok_is_less T) (hr.mono (by decide)) rfl T.is_less.m T.is_less.F.kp (bi_is_less T) .nil pass0 (pa_cons (pv 3) (pa_cons (pv 7) pa_nil))) (by intro _; rfl)) (pe_call (ok_powered T) (hr.mono (by decide)) rfl T.powered.m T.powered.F.kp (bi_powered T) .nil pass0 (pa_cons (pe_call (ok_less_by T) (hr.mono (by decide)) rfl T.less_by.m T.less_by.F.kp (bi_less_by T) .nil pass0 (pa_cons (pv 7) (pa_cons (pv 3) pa_nil))) (pa_cons (pe_op (kop_addB (K := K) rfl) (pv 2) pe_int) pa_nil))) (pe_glob rfl T.NOUGHT.m T.NOUGHT.r)))
    (pss_one (ps_expr (kpe_app (K := K) rfl (pv 4) (pe_call (ok_multiplied T) (hr.mono (by decide)) rfl T.multiplied.m T.multiplied.F.kp (bi_multiplied T) .nil pass0 (pa_cons (pe_call (ok_multiplied T) (hr.mono (by decide)) rfl T.multiplied.m T.multiplied.F.kp (bi_multiplied T) .nil pass0 (pa_cons (pv 9) (pa_cons (pe_call (ok_lowest T) (hr.mono (by decide)) rfl T.lowest.m T.lowest.F.kp (bi_lowest T) .nil pass0 (pa_cons pe_int (pa_cons (pe_op (kop_addB (K := K) rfl) (pv 2) pe_int) pa_nil))) pa_nil))) (pa_cons (pe_call (ok_less_by T) (hr.mono (by decide)) rfl T.less_by.m T.less_by.F.kp (bi_less_by T) .nil pass0 (pa_cons (pv 10) (pa_cons (pv 11) pa_nil))) pa_nil)))))))) pss_nil)))
    (pss_one (ps_ret (pe_call (ok_summed T) (hr.mono (by decide)) rfl T.summed.m T.summed.F.kp (bi_summed T) .nil pass0 (pa_cons (pv 4) pa_nil))))))), ?_⟩
  exact ((sk_seq (sk_ypar (yk_cons (gk_call (ak_cons gk_var ak_nil)) (yk_cons (gk_lst ak_nil) yk_nil)))
    (sk_seq (sk_for (ik_seq (gk_fld T.Rule rfl gk_var)) (gt_tup (gts_cons gt_name (gts_cons gt_name gts_nil))) ((sk_if (tk_truK (gk_call (ak_cons gk_var (ak_cons gk_var ak_nil)))) (sk_app (gk_call (ak_cons gk_var (ak_cons (gk_call (ak_cons (gk_call (ak_cons gk_var (ak_cons gk_var ak_nil))) (ak_cons gk_var ak_nil))) ak_nil)))) sk_next) : SOk K _ b_told_kink_1))
    (sk_seq (sk_for (ik_seq (gk_fld T.Rule rfl gk_var)) (gt_tup (gts_cons gt_name (gts_cons gt_name (gts_cons gt_name gts_nil)))) ((sk_if (tk_truK (gk_call (ak_cons gk_var (ak_cons gk_var ak_nil)))) (sk_seq (sk_set (gk_call (ak_cons (gk_call (ak_cons gk_var (ak_cons gk_var ak_nil))) (ak_cons (gk_op od_addB gk_var gk_int) ak_nil))))
    (sk_seq (sk_set (gk_if (tk_truK (gk_call (ak_cons gk_var (ak_cons gk_var ak_nil)))) (gk_call (ak_cons (gk_call (ak_cons gk_var (ak_cons gk_var ak_nil))) (ak_cons (gk_op od_addB gk_var gk_int) ak_nil))) (gk_c T.NOUGHT.d)))
    (sk_app (gk_call (ak_cons (gk_call (ak_cons gk_var (ak_cons (gk_call (ak_cons gk_int (ak_cons (gk_op od_addB gk_var gk_int) ak_nil))) ak_nil))) (ak_cons (gk_call (ak_cons gk_var (ak_cons gk_var ak_nil))) ak_nil)))))) sk_next) : SOk K _ b_told_kink_2))
    (sk_ret (gk_call (ak_cons gk_var ak_nil)))))) : SOk K _ b_told_kink)
theorem sc_law : FnScope nm_law pm_law (defScope s_law) := ⟨rfl, rfl, rfl, by decide +kernel, rfl, by decide +kernel, by decide +kernel⟩
theorem sc_Block_init : FnScope nm_Block_init pm_Block_init (defScope s_Block_init) := ⟨rfl, rfl, rfl, by decide +kernel, rfl, by decide +kernel, by decide +kernel⟩
theorem bi_Block_init (T : Txt K mg) : Binds K T.Block_init.fd pm_Block_init [] := T.Block_init.F.binds fun _ _ _ _ _ _ us hl => by obtain ⟨_, _, rfl⟩ := len2 hl; rfl
theorem sc_Block_enter : FnScope nm_Block_enter pm_Block_enter (defScope s_Block_enter) := ⟨rfl, rfl, rfl, by decide +kernel, rfl, by decide +kernel, by decide +kernel⟩
theorem bi_Block_enter (T : Txt K mg) : Binds K T.Block_enter.fd pm_Block_enter [] := T.Block_enter.F.binds fun _ _ _ _ _ _ us hl => by obtain ⟨_, rfl⟩ := len1 hl; rfl
theorem sc_Block_exit : FnScope nm_Block_exit pm_Block_exit (defScope s_Block_exit) := ⟨rfl, rfl, rfl, by decide +kernel, rfl, by decide +kernel, by decide +kernel⟩
theorem bi_Block_exit (T : Txt K mg) : Binds K T.Block_exit.fd pm_Block_exit [] := T.Block_exit.F.binds fun _ _ _ _ _ _ us hl => by obtain ⟨_, _, _, _, rfl⟩ := len4 hl; rfl
theorem sc_Live_within : FnScope nm_Live_within pm_Live_within (defScope s_Live_within) := ⟨rfl, rfl, rfl, by decide +kernel, rfl, by decide +kernel, by decide +kernel⟩
theorem bi_Live_within (T : Txt K mg) : Binds K T.Live_within.fd pm_Live_within [] := T.Live_within.F.binds fun _ _ _ _ _ _ us hl => by obtain ⟨_, _, rfl⟩ := len2 hl; rfl
theorem kb_Live_within_1 (T : Txt K mg) : KBn K T.Live_within.fd pm_Live_within 1 ["work"] (fun us ws => pick [0, 1] (us ++ (ws ++ []))) (fun vs zs => pick [0, 1] (vs ++ (zs ++ []))) :=
  kb_F T.Live_within.F 1 _ _ fun _ _ _ _ _ _ us ws h1 h2 => by obtain ⟨_, rfl⟩ := ln1 h1; obtain ⟨_, rfl⟩ := ln1 h2; rfl
theorem ok_Block_init (T : Txt K mg) : FnOk P w K mg base CX0 1 T.Block_init.f T.Block_init.fd pm_Block_init (spBI T.Block.C) := T.Block_init.F.ok sc_Block_init (fun vs H Q E q => (rd_BI T.Block (E := E) q).1) fun cdv A outer s H vs Q E hr q => ⟨_, pss_cons (kps_fld (K := K) rfl (pv 0) (pv 1) rfl) (pss_one (kps_fld (K := K) rfl (pv 0) (pe_tup pa_nil) rfl)), (rd_BI T.Block (E := E) q).2⟩
theorem ok_Block_enter (T : Txt K mg) : FnOk P w K mg base CX0 1 T.Block_enter.f T.Block_enter.fd pm_Block_enter (spBE T.Block.C T.Live.C) := T.Block_enter.F.ok sc_Block_enter (fun vs H Q E q => (rd_BE T.Block T.Live (E := E) q).1) fun cdv A outer s H vs Q E hr q => ⟨_, pss_cons (kps_fld (K := K) rfl (pv 0) (kpe_fld (K := K) rfl (kpe_fld (K := K) rfl (pv 0) rfl) rfl) rfl) (pss_one (ps_ret (kpe_fld (K := K) rfl (pv 0) rfl))), (rd_BE T.Block T.Live (E := E) q).2⟩
theorem ok_Block_exit (T : Txt K mg) : FnOk P w K mg base CX0 1 T.Block_exit.f T.Block_exit.fd pm_Block_exit (spBX T.Block.C T.Live.C) := T.Block_exit.F.ok sc_Block_exit (fun vs H Q E q => (rd_BX T.Block T.Live (E := E) q).1) fun cdv A outer s H vs Q E hr q => ⟨_, pss_one (kps_fld (K := K) rfl (kpe_fld (K := K) rfl (pv 0) rfl) (kpe_fld (K := K) rfl (pv 0) rfl) rfl), (rd_BX T.Block T.Live (E := E) q).2⟩
def win_T (T : Txt K mg) : WinC P w K mg base T.Live.C T.Block.C (spBI T.Block.C) (spBE T.Block.C T.Live.C) (spBX T.Block.C T.Live.C) where
  g := T.Live_within.f
  fd := T.Live_within.fd
  st := s_Live_within
  F := T.Live_within.F
  m := T.Live_within.m
  c := T.Live.cls
  S := sc_Live_within
  body := ⟨_, _, _, _, _, _, _, _, _, rfl⟩
  bi := bi_Live_within T
  gl := rfl
  v0 := rfl
  v1 := rfl
  v2 := rfl
  mgB := T.Block.mg
  fi := T.Block_init.f
  fe := T.Block_enter.f
  fx := T.Block_exit.f
  fdi := T.Block_init.fd
  fde := T.Block_enter.fd
  fdx := T.Block_exit.fd
  M := T.mk_Block
  Fi := ok_Block_init T
  Fe := ok_Block_enter T
  Fx := ok_Block_exit T
  bI := bi_Block_init T
  bE := bi_Block_enter T
  bX := bi_Block_exit T
  cE := T.Block_enter.m.at_
  iE := T.Block_enter.m.fn
  cX := T.Block_exit.m.at_
  iX := T.Block_exit.m.fn
theorem ok_law (T : Txt K mg) {c9 P9 : Addr} (TB : LamX.TabB base mg c9 P9) (hc9 : T.law.fd.code = .ref c9) : FnOk P w K mg base CX0 13 T.law.f T.law.fd pm_law (spL K r_law P9) := by
  have nd := sc_law.nd
  refine data_L T.law.F hc9 sc_law fun A outer s H E hr => ?_
  refine ⟨_, (pss_cons (ps_for PassesOwn.never rfl (pi_range1 rfl T.range (pa_cons (pe_callB (cr_max2 rfl) (by rfl) T.max (by decide +kernel) (pa_cons pe_int (pa_cons (pe_callB (cr_min2 rfl) (by rfl) T.min (by decide +kernel) (pa_cons pe_int (pa_cons (pe_callB (kcr_len (K := K) rfl) (by rfl) T.len (by decide +kernel) (pa_cons (pv 0) pa_nil)) pa_nil))) pa_nil))) pa_nil)) (pg_name (i := 1) nd rfl (Or.inl rfl)) (pss_cons (ps_set (i := 2) nd rfl (Or.inl rfl) (pe_call (ok_w_number T) (hr.mono (by decide)) rfl T.w_number.m T.w_number.F.kp (bi_w_number T) .nil pass0 (pa_cons (pv 0) (pa_cons (pv 1) pa_nil))))
    (pss_cons (ps_par (i := 3) (j := 4) rfl nd rfl rfl (by decide) rfl rfl (pa_cons (pe_callN0 (ok_area T) (hr.mono (by decide)) rfl T.area.m T.area.F.kp (kb_area_1 T) pass0 (pk_cons pe_int (pk_cons pe_int pk_nil))) (pa_cons (pe_makeK0 T.mk_Rule (ok_Rule_init T) (hr.mono (by decide)) rfl T.Rule.mg (kb_Rule_init_1 T).choose_spec pass0 (pk_cons (pe_lst (pa_cons (pe_tup (pa_cons pe_int (pa_cons (pe_tup (pa_cons pe_int (pa_cons pe_int pa_nil))) pa_nil))) (pa_cons (pe_tup (pa_cons pe_int (pa_cons (pe_tup (pa_cons pe_int (pa_cons pe_int pa_nil))) pa_nil))) pa_nil))) (pk_cons pe_int (pk_cons pe_int pk_nil)))) pa_nil)) (by rfl))
    (pss_cons (ps_set (i := 5) nd rfl (Or.inl rfl) (pe_makeK0 T.mk_Rule (ok_Rule_init T) (hr.mono (by decide)) rfl T.Rule.mg (kb_Rule_init_2 T).choose_spec pass0 (pk_cons (pe_tup pa_nil) (pk_cons (pe_lst (pa_cons (pe_tup (pa_cons (pe_tup (pa_cons pe_int (pa_cons pe_int pa_nil))) (pa_cons pe_int pa_nil))) pa_nil)) (pk_cons pe_int (pk_cons pe_int pk_nil))))))
    (pss_cons (ps_if (PW.pt (pw_or (pt_cmpR (OpR.or (kop_ne (K := K) rfl hr.units) (op_neO (E := E0) T.Rule_eq.m.at_ T.Rule_eq.m.fn T.om_Rule T.on_Rule (ok_Rule_eq T) (hr.mono (by decide)) (bi_Rule_eq T) pass0)) (pe_cmethN (pe_glob (v := .ref T.Rule.C) rfl T.Rule.mg rfl) T.Rule_read.r T.Rule_read.m (ok_Rule_read T) (hr.mono (by decide)) (kb_Rule_read_1 T) pass0 (pk_cons (pe_callTy (cr_or cr_str (cr_strO (E := E0) T.Rule_str.m.at_ T.Rule_str.m.fn (ok_Rule_str T) (hr.mono (by decide)) (bi_Rule_str T) pass0)) (by rfl) T.str (by decide +kernel) (pa_cons (pv 4) pa_nil)) pk_nil)) (pv 4) (nomark _)) (pw_or1 (pt_cmpR (OpR.or (kop_ne (K := K) rfl hr.units) (op_neO (E := E0) T.Rule_eq.m.at_ T.Rule_eq.m.fn T.om_Rule T.on_Rule (ok_Rule_eq T) (hr.mono (by decide)) (bi_Rule_eq T) pass0)) (pe_methN (pv 4) T.Rule.cls T.Rule_scaled.m (ok_Rule_scaled T) (hr.mono (by decide)) (kb_Rule_scaled_1 T) pass0 (pk_cons pe_int pk_nil)) (pe_op (OpR.or (kop_addB (K := K) rfl) (op_bin (E := E0) T.sf_Rule T.Rule_add.m.at_ T.Rule_add.m.fn (ok_Rule_add T) (hr.mono (by decide)) (bi_Rule_add T) pass0)) (pv 4) (pv 4)) (nomark _))))) (pss_one (ps_ret pe_bl)) pss_nil)
    (pss_cons (ps_if (pt_cmpR (kop_ne (K := K) rfl hr.units) (kpe_fld (K := K) rfl (pe_methN (pv 5) T.Rule.cls T.Rule_led.m (ok_Rule_led T) (hr.mono (by decide)) (kb_Rule_led_1 T) pass0 (pk_cons (pe_op (kop_addB (K := K) rfl) (pv 2) pe_int) (pk_cons (pv 2) pk_nil))) rfl) (pe_tup (pa_cons (pe_tup (pa_cons (pe_tup (pa_cons (pe_op (kop_addB (K := K) rfl) (pv 2) pe_int) (pa_cons pe_int pa_nil))) (pa_cons (pe_tup (pa_cons pe_int (pa_cons pe_int pa_nil))) pa_nil))) pa_nil)) (nomark _)) (pss_one (ps_ret pe_bl)) pss_nil)
    (pss_cons (ps_if (PW.pt (pw_or (pt_cmpR (kop_ne (K := K) rfl hr.units) (pe_callN0 (ok_told_kink T) (hr.mono (by decide)) rfl T.told_kink.m T.told_kink.F.kp (kb_told_kink_1 T) pass0 (pk_cons pe_int (pk_cons (pe_tup (pa_cons pe_int (pa_cons pe_int pa_nil))) (pk_cons (pv 4) pk_nil)))) (pe_tup (pa_cons pe_int (pa_cons pe_int pa_nil))) (nomark _)) (pw_or1 (pt_not (kpt_tru (K := K) rfl (pe_call (ok_w_made_right T) (hr.mono (by decide)) rfl T.w_made_right.m T.w_made_right.F.kp (bi_w_made_right T) .nil pass0 (pa_cons (pv 4) (pa_cons (pv 5) (pa_cons (pv 3) pa_nil)))) (by intro _; rfl)))))) (pss_one (ps_ret pe_bl)) pss_nil)
    (pss_cons (ps_set (i := 6) nd rfl (Or.inl rfl) (pe_makeK0 T.mk_Live (ok_Live_init T) (hr.mono (by decide)) rfl T.Live.mg (kb_Live_init_1 T) pass0 (pk_cons pe_int (pk_cons pe_int pk_nil))))
    (pss_cons (ps_expr (pe_methN (pv 6) T.Live.cls T.Live_put.m (ok_Live_put T) (hr.mono (by decide)) (kb_Live_put_1 T) pass0 (pk_cons pe_int (pk_cons (pe_tup (pa_cons pe_int (pa_cons pe_int pa_nil))) pk_nil))))
    (pss_cons (ps_expr (pe_methN (pv 6) T.Live.cls T.Live_cover.m (ok_Live_cover T) (hr.mono (by decide)) (kb_Live_cover_1 T) pass0 (pk_cons (pe_un un_neg pe_int) (pk_cons pe_int (pk_cons pe_int pk_nil)))))
    (pss_cons (ps_expr (pe_methN (pv 6) T.Live.cls T.Live_several.m (ok_Live_several T) (hr.mono (by decide)) (kb_Live_several_1 T) pass0 (pk_cons (pe_lst (pa_cons (pe_tup (pa_cons pe_int (pa_cons (pv 2) pa_nil))) pa_nil)) pk_nil)))
    (pss_cons (ps_if (PW.pt (pw_or (pt_cmpR (kop_ne (K := K) rfl hr.units) (pe_callB (cr_lenO (E := E0) T.Live_len.m.at_ T.Live_len.m.fn (ok_Live_len T) (hr.mono (by decide)) (bi_Live_len T) pass0) (by rfl) T.len (by decide +kernel) (pa_cons (pv 6) pa_nil)) pe_int (nomark _)) (pw_or (pt_cmpR op_isNotA (pe_methN (pv 6) T.Live.cls T.Live_is_for.m (ok_Live_is_for T) (hr.mono (by decide)) (kb_Live_is_for_1 T) pass0 (pk_cons pe_int pk_nil)) pe_bl (nomark _)) (pw_or1 (pt_cmpR (kop_ne (K := K) rfl hr.units) (pe_withinK (k := 2) (p := "_law_zgiven") (win_T T) (pv 6) TB rfl (hr.mono (by decide)) (kb_Live_within_1 T) (fun _ _ => rfl) (lamP_by (sc := defScope s_law) (by decide +kernel)) (show ("_law_zgiven" : PySem.Str) ∉ nm_law by decide +kernel) rfl (fun _ _ _ _ _ _ => rfl) (fun A outer s H f9 c9 hr => (pe_callB (cr_lenO (E := E0) T.Live_len.m.at_ T.Live_len.m.fn (ok_Live_len T) (hr.mono (by decide)) (bi_Live_len T) pass0) (by rfl) T.len (by decide +kernel) (pa_cons (pv 0) pa_nil)))) pe_int (nomark _)))))) (pss_one (ps_ret pe_bl)) pss_nil)
    (pss_cons (ps_if (pt_cmpR (OpR.or (kop_ne (K := K) rfl hr.units) (op_neO (E := E0) T.Rule_eq.m.at_ T.Rule_eq.m.fn T.om_Rule T.on_Rule (ok_Rule_eq T) (hr.mono (by decide)) (bi_Rule_eq T) pass0)) (pe_prop (pv 6) T.Live.cls T.Live_shown.m (ok_Live_shown T) (hr.mono (by decide)) (bi_Live_shown T) .nil pass0 rfl) (pe_op (OpR.or (kop_addB (K := K) rfl) (op_bin (E := E0) T.sf_Rule T.Rule_add.m.at_ T.Rule_add.m.fn (ok_Rule_add T) (hr.mono (by decide)) (bi_Rule_add T) pass0)) (pe_op (OpR.or op_subA (op_bin (E := E0) T.sf_Rule T.Rule_sub.m.at_ T.Rule_sub.m.fn (ok_Rule_sub T) (hr.mono (by decide)) (bi_Rule_sub T) pass0)) (pv 5) (pv 3)) (pe_make T.mk_Rule (ok_Rule_init T) (hr.mono (by decide)) rfl T.Rule.mg (bi_Rule_init_4 T).choose_spec.2 (bi_Rule_init_4 T).choose_spec.1 pass0 (pa_cons pe_int (pa_cons pe_int (pa_cons (pe_lst (pa_cons (pe_tup (pa_cons pe_int (pa_cons (pv 2) pa_nil))) pa_nil)) pa_nil))))) (nomark _)) (pss_one (ps_ret pe_bl)) pss_nil)
    (pss_one (ps_if (pt_cmpR (kop_ne (K := K) rfl hr.units) (pe_methN (pe_make0 T.mk_Desk (ok_Desk_init T) (hr.mono (by decide)) rfl T.Desk.mg (bi_Desk_init T) .nil pass0) T.Desk.cls T.Desk_say.m (ok_Desk_say T) (hr.mono (by decide)) (kb_Desk_say_1 T) pass0 (pk_cons pe_str pk_nil)) pe_str (nomark _)) (pss_one (ps_ret pe_bl)) pss_nil)))))))))))))))
    (pss_one (ps_ret pe_bl))), ?_⟩
  exact ((sk_seqT (sk_forT (ik_range1 (ak_cons (gk_cb cd_max2 (ak_cons gk_int (ak_cons (gk_cb cd_min2 (ak_cons gk_int (ak_cons (gk_cb cd_len (ak_cons gk_var ak_nil)) ak_nil))) ak_nil))) ak_nil)) gt_name ((sk_seqT (SOk.toT (sk_set (gk_call (ak_cons gk_var (ak_cons gk_var ak_nil)))))
    (sk_seqT (SOk.toT (sk_ypar (yk_cons (gk_callK (is := [1, 0]) (fun _ => .nil) ak_nil (ak_cons gk_int (ak_cons gk_int ak_nil))) (yk_cons (gk_makeK (is := [2, 1, 0, 4]) T.Rule (fun H => T.Rule_init.d H) ak_nil (ak_cons (gk_lst (ak_cons (gk_tup (ak_cons gk_int (ak_cons (gk_tup (ak_cons gk_int (ak_cons gk_int ak_nil))) ak_nil))) (ak_cons (gk_tup (ak_cons gk_int (ak_cons (gk_tup (ak_cons gk_int (ak_cons gk_int ak_nil))) ak_nil))) ak_nil))) (ak_cons gk_int (ak_cons gk_int ak_nil)))) yk_nil))))
    (sk_seqT (SOk.toT (sk_set (gk_makeK (is := [3, 2, 1, 0]) T.Rule (fun H => T.Rule_init.d H) ak_nil (ak_cons (gk_tup ak_nil) (ak_cons (gk_lst (ak_cons (gk_tup (ak_cons (gk_tup (ak_cons gk_int (ak_cons gk_int ak_nil))) (ak_cons gk_int ak_nil))) ak_nil)) (ak_cons gk_int (ak_cons gk_int ak_nil)))))))
    (sk_seqT (SOk.toT (sk_if (tk_or (tk_test (gk_op (od_ownNe T.Rule.at_ od_ne) (gk_cmethK (is := [0]) T.Rule (fun _ => .nil) (gk_c fun _ => .cl T.Rule.at_) (ak_cons (gk_cb (cd_strO T.Rule.at_) (ak_cons gk_var ak_nil)) ak_nil)) gk_var)) (tk_test (gk_op (od_ownNe T.Rule.at_ od_ne) (gk_methK (nm := "scaled") (is := [0]) T.Rule (by decide +kernel) (fun _ => .nil) gk_var (ak_cons gk_int ak_nil)) (gk_op (od_own T.Rule.at_ od_addB) gk_var gk_var)))) (sk_ret gk_bl) sk_next))
    (sk_seqT (SOk.toT (sk_if (tk_test (gk_op od_ne (gk_fld T.Rule rfl (gk_methK (nm := "led") (is := [1, 0]) T.Rule (by decide +kernel) (fun _ => .nil) gk_var (ak_cons (gk_op od_addB gk_var gk_int) (ak_cons gk_var ak_nil)))) (gk_tup (ak_cons (gk_tup (ak_cons (gk_tup (ak_cons (gk_op od_addB gk_var gk_int) (ak_cons gk_int ak_nil))) (ak_cons (gk_tup (ak_cons gk_int (ak_cons gk_int ak_nil))) ak_nil))) ak_nil)))) (sk_ret gk_bl) sk_next))
    (sk_seqT (SOk.toT (sk_if (tk_or (tk_test (gk_op od_ne (gk_callK (is := [2, 1, 0]) (fun _ => .nil) ak_nil (ak_cons gk_int (ak_cons (gk_tup (ak_cons gk_int (ak_cons gk_int ak_nil))) (ak_cons gk_var ak_nil)))) (gk_tup (ak_cons gk_int (ak_cons gk_int ak_nil))))) (tk_not (tk_truK (gk_call (ak_cons gk_var (ak_cons gk_var (ak_cons gk_var ak_nil))))))) (sk_ret gk_bl) sk_next))
    (sk_seqT (SOk.toT (sk_set (gk_makeK (is := [1, 0]) T.Live (fun _ => .nil) ak_nil (ak_cons gk_int (ak_cons gk_int ak_nil)))))
    (sk_seqT (SOk.toT (sk_drop (gk_methBK (nm := "put") (k := 2) (is := [1, 0]) T.Live (by decide +kernel) (ak_cons gk_int (ak_cons (gk_tup (ak_cons gk_int (ak_cons gk_int ak_nil))) ak_nil)))))
    (sk_seqT (SOk.toT (sk_drop (gk_methBK (nm := "cover") (k := 3) (is := [2, 1, 0]) T.Live (by decide +kernel) (ak_cons (gk_un ud_neg gk_int) (ak_cons gk_int (ak_cons gk_int ak_nil))))))
    (sk_seqT (SOk.toT (sk_drop (gk_methBK (nm := "several") (k := 1) (is := [0]) T.Live (by decide +kernel) (ak_cons (gk_lst (ak_cons (gk_tup (ak_cons gk_int (ak_cons gk_var ak_nil))) ak_nil)) ak_nil))))
    (sk_seqT (sk_ifTT (tk_orT (tk_test (gk_op od_ne (gk_lenB T.Live) gk_int)) (tk_orT (tk_test (gk_op od_isNot (gk_methBK (nm := "is_for") (k := 1) (is := [0]) T.Live (by decide +kernel) (ak_cons gk_int ak_nil)) gk_bl)) (tk_testT (gk_opT od_ne (gk_within T.Live (gk_lenB T.Live)) gk_int)))) (SOk.toT (sk_ret gk_bl)) (SOk.toT sk_next))
    (sk_seqT (SOk.toT (sk_if (tk_test (gk_op (od_ownNe T.Rule.at_ od_ne) (gk_propB T.Live) (gk_op (od_own T.Rule.at_ od_addB) (gk_op (od_own T.Rule.at_ od_sub) gk_var gk_var) (gk_make T.Rule (fun H => (drs_drop (T.Rule_init.d H) 1)) (ak_cons gk_int (ak_cons gk_int (ak_cons (gk_lst (ak_cons (gk_tup (ak_cons gk_int (ak_cons gk_var ak_nil))) ak_nil)) ak_nil))))))) (sk_ret gk_bl) sk_next))
    (SOk.toT (sk_if (tk_test (gk_op od_ne (gk_tmpK (nm := "say") T.Desk (by decide +kernel) (fun _ => .str _)) gk_str)) (sk_ret gk_bl) sk_next)))))))))))))) : SOkT K P9 lawQ _ b_law_1))
    (SOk.toT (sk_ret gk_bl))) : SOkT K P9 lawQ _ b_law)
end
end Bk
namespace Bk
open PySem L2
def res12 : Option (Fl × Gam) → Option Gam
  | some (.nx, G) => some G
  | _ => none
def t12 : MS := (xseq (ypar 3 4 (ycons (xcallK r_area 0 2 [1, 0] [] xnil (xcons (xc (.int 1)) (xcons (xc (.int 0)) xnil))) (ycons (xmakeK 0 r_Rule_init 0 3 [2, 1, 0, 4] [.tup [], .tup []] xnil (xcons (xlst (xcons (xtup (xcons (xc (.int 0)) (xcons (xtup (xcons (xc (.int 1)) (xcons (xc (.int 2)) xnil))) xnil))) (xcons (xtup (xcons (xc (.int 1)) (xcons (xtup (xcons (xc (.int 1)) (xcons (xc (.int 2)) xnil))) xnil))) xnil))) (xcons (xc (.int 1)) (xcons (xc (.int 0)) xnil)))) ynil)))
  (xseq (xset 5 (xmakeK 0 r_Rule_init 0 4 [3, 2, 1, 0] [.tup [], .tup []] xnil (xcons (xtup xnil) (xcons (xlst (xcons (xtup (xcons (xtup (xcons (xc (.int 1)) (xcons (xc (.int 2)) xnil))) (xcons (xc (.int 1)) xnil))) xnil)) (xcons (xc (.int 1)) (xcons (xc (.int 0)) xnil))))))
  (xseq (xifs (xtor (xtest (xop (opOwnNe 0 r_Rule_eq opNe) (xcmeth 0 r_Rule_read 1 [0] [] (xc (.cl 0)) (xcons (xcb (cbStrO 0 r_Rule_str) (xcons (xv 4) xnil)) xnil)) (xv 4))) (xtest (xop (opOwnNe 0 r_Rule_eq opNe) (xmethK 0 r_Rule_scaled 1 [0] [] (xv 4) (xcons (xc (.int 2)) xnil)) (xop (opOwn 0 r_Rule_add opAddB) (xv 4) (xv 4))))) (xret (xc (.bl false))) xnext)
  (xseq (xifs (xtest (xop opNe (xfld 0 2 (xmethK 0 r_Rule_led 2 [1, 0] [] (xv 5) (xcons (xop opAddB (xv 2) (xc (.int 2))) (xcons (xv 2) xnil)))) (xtup (xcons (xtup (xcons (xtup (xcons (xop opAddB (xv 2) (xc (.int 1))) (xcons (xc (.int 1)) xnil))) (xcons (xtup (xcons (xc (.int 1)) (xcons (xc (.int 1)) xnil))) xnil))) xnil)))) (xret (xc (.bl false))) xnext)
  (xseq (xifs (xtor (xtest (xop opNe (xcallK r_told_kink 0 3 [2, 1, 0] [] xnil (xcons (xc (.int 1)) (xcons (xtup (xcons (xc (.int 1)) (xcons (xc (.int 2)) xnil))) (xcons (xv 4) xnil)))) (xtup (xcons (xc (.int 1)) (xcons (xc (.int 4)) xnil))))) (xtnot (xtru (xcall r_w_made_right (xcons (xv 4) (xcons (xv 5) (xcons (xv 3) xnil))))))) (xret (xc (.bl false))) xnext)
  (xseq (xset 6 (xmakeK 2 r_Live_init 0 2 [1, 0] [] xnil (xcons (xc (.int 1)) (xcons (xc (.int 0)) xnil))))
  (xseq (xdrop (xmethB 6 2 r_Live_put [] (xpk 2 [1, 0] (xcons (xc (.int 1)) (xcons (xtup (xcons (xc (.int 1)) (xcons (xc (.int 2)) xnil))) xnil)))))
  (xseq (xdrop (xmethB 6 2 r_Live_cover [] (xpk 3 [2, 1, 0] (xcons (xun unNeg (xc (.int 1))) (xcons (xc (.int 1)) (xcons (xc (.int 0)) xnil))))))
  (xseq (xdrop (xmethB 6 2 r_Live_several [] (xpk 1 [0] (xcons (xlst (xcons (xtup (xcons (xc (.int 0)) (xcons (xv 2) xnil))) xnil)) xnil))))
  (xseq (xifs (xtor (xtest (xop opNe (xlenB 6 2 r_Live_len) (xc (.int 3)))) (xtor (xtest (xop opIsNot (xmethB 6 2 r_Live_is_for [] (xpk 1 [0] (xcons (xc (.int 0)) xnil))) (xc (.bl false)))) (xtest (xop opNe (xwithin 6 (xlenB 0 2 r_Live_len)) (xc (.int 3)))))) (xret (xc (.bl false))) xnext)
  (xseq (xifs (xtest (xop (opOwnNe 0 r_Rule_eq opNe) (xmethB 6 2 r_Live_shown [] xnil) (xop (opOwn 0 r_Rule_add opAddB) (xop (opOwn 0 r_Rule_sub opSub) (xv 5) (xv 3)) (xmake 0 r_Rule_init ([.tup [], .tup []].drop 1) (xcons (xc (.int 0)) (xcons (xc (.int 1)) (xcons (xlst (xcons (xtup (xcons (xc (.int 0)) (xcons (xv 2) xnil))) xnil)) xnil))))))) (xret (xc (.bl false))) xnext)
  (xifs (xtest (xop opNe (xtmpK 4 r_Desk_init r_Desk_say (.str "rule a rule 0 1")) (xc (.str "rule 0 1")))) (xret (xc (.bl false))) xnext))))))))))))
theorem law1_12 : b_law_1 = xseq (xset 2 (xcall r_w_number (xcons (xv 0) (xcons (xv 1) xnil)))) t12 := rfl
section
variable (x0 x1 x3 x4 x5 x6 : Ent)
theorem run12_0 : (res12 (t12 [x0, x1, .im (.int 0), x3, x4, x5, x6])).map (fun G => (G[0]?, G.length)) = some (some x0, 7) := by kernel_rfl
theorem run12_1 : (res12 (t12 [x0, x1, .im (.int 1), x3, x4, x5, x6])).map (fun G => (G[0]?, G.length)) = some (some x0, 7) := by kernel_rfl
theorem run12_2 : (res12 (t12 [x0, x1, .im (.int 2), x3, x4, x5, x6])).map (fun G => (G[0]?, G.length)) = some (some x0, 7) := by kernel_rfl
theorem run12_3 : (res12 (t12 [x0, x1, .im (.int 3), x3, x4, x5, x6])).map (fun G => (G[0]?, G.length)) = some (some x0, 7) := by kernel_rfl
theorem run12_4 : (res12 (t12 [x0, x1, .im (.int 4), x3, x4, x5, x6])).map (fun G => (G[0]?, G.length)) = some (some x0, 7) := by kernel_rfl
theorem run12_5 : (res12 (t12 [x0, x1, .im (.int 5), x3, x4, x5, x6])).map (fun G => (G[0]?, G.length)) = some (some x0, 7) := by kernel_rfl
end
end Bk
namespace Bk
open PySem L2
theorem runF_eq {k n : Nat} {b : MS} {ds : List D} (h : ds.length = k) : runF k n b ds = outF (b (pad n ds)) := if_pos h
theorem xseq_nx {s t : MS} {G G1 : Gam} (h : s G = some (.nx, G1)) : xseq s t G = t G1 := by
  unfold xseq
  rw [h]
theorem xset_ok {i : Nat} {a : M R} {G G1 : Gam} {r : R} (h : a G = some (r, G1)) : xset i a G = some (.nx, G1.set i r.ent) := by
  unfold xset
  rw [h]
  rfl
theorem xset_e {i : Nat} {a : M R} {G G1 G2 : Gam} {r : R} (h : a G = some (r, G1)) (e : G1.set i r.ent = G2) : xset i a G = some (.nx, G2) := e ▸ xset_ok h
theorem xret_ok {a : M R} {G G1 : Gam} {r : R} (h : a G = some (r, G1)) : xret a G = some (.rt r, G1) := by
  unfold xret
  rw [h]
  rfl
theorem xcall_ok {m : List D → Option R} {a : M (List D)} {G G1 : Gam} {xs : List D} {r : R} (h : a G = some (xs, G1)) (hm : m xs = some r) : xcall m a G = some (r, G1) := by
  unfold xcall
  rw [h]
  simp only [bd_some, hm]
theorem xcons_ok {a : M R} {b : M (List D)} {G G1 G2 : Gam} {r : R} {xs : List D} (h : a G = some (r, G1)) (hb : b G1 = some (xs, G2)) : xcons a b G = some (r.d :: xs, G2) := by
  unfold xcons
  rw [h]
  simp only [bd_some, hb]
theorem xnil_ok {G : Gam} : xnil G = some ([], G) := rfl
theorem runF_st {k n : Nat} {b : MS} {ds : List D} {o : Option R} (hl : ds.length = k) (h : outF (b (pad n ds)) = o) : runF k n b ds = o := (runF_eq hl).trans h
theorem st_nx {s t : MS} {G G1 : Gam} {o : Option R} (h : s G = some (.nx, G1)) (k : outF (t G1) = o) : outF (xseq s t G) = o := (congrArg outF (xseq_nx h)).trans k
theorem st_ret {a : M R} {G G1 : Gam} {r : R} (h : a G = some (r, G1)) : outF (xret a G) = some r := congrArg outF (xret_ok h)
theorem xop_ok {o : D → D → Option R} {a b : M R} {G G1 G2 : Gam} {x y r : R} (ha : a G = some (x, G1)) (hb : b G1 = some (y, G2)) (h : o x.d y.d = some r) : xop o a b G = some (r, G2) := by
  unfold xop
  rw [ha]
  simp only [bd_some, hb, h]
theorem xc1 {a : M R} {b : M (List D)} {G G1 G2 : Gam} {d : D} {xs : List D} (h : a G = some (.im d, G1)) (hb : b G1 = some (xs, G2)) : xcons a b G = some (d :: xs, G2) := xcons_ok h hb
theorem xo2 {o : D → D → Option R} {a b : M R} {G G1 G2 : Gam} {x y : D} {r : R} (ha : a G = some (.im x, G1)) (hb : b G1 = some (.im y, G2)) (h : o x y = some r) : xop o a b G = some (r, G2) := xop_ok ha hb h
theorem xcb_ok {o : List D → Option R} {a : M (List D)} {G G1 : Gam} {xs : List D} {r : R} (h : a G = some (xs, G1)) (ho : o xs = some r) : xcb o a G = some (r, G1) := by
  unfold xcb
  rw [h]
  simp only [bd_some, ho]
/-- a loop whose turns keep a word -/
theorem xforL_inv {tg : D → Gam → Option Gam} {b : MS} (Inv : Gam → Prop) : ∀ {ds : List D} {G : Gam}, Inv G → (∀ d ∈ ds, ∀ G, Inv G → ∃ G1 G2, tg d G = some G1 ∧ (b G1 = some (.nx, G2) ∨ b G1 = some (.ct, G2)) ∧ Inv G2) →
    ∃ G', xforL tg b ds G = some (.nx, G') ∧ Inv G'
  | [], G, h, _ => ⟨G, rfl, h⟩
  | d :: ds, G, h, step => by
    obtain ⟨G1, G2, h1, h2, h3⟩ := step d List.mem_cons_self G h
    obtain ⟨G', h4, h5⟩ := xforL_inv Inv h3 fun e he => step e (List.mem_cons_of_mem _ he)
    refine ⟨G', ?_, h5⟩
    unfold xforL
    rw [h1]
    rcases h2 with h2 | h2
    · simp only [h2]; exact h4
    · simp only [h2]; exact h4
theorem rng_mem {lo : Int} {n : Nat} {d : D} (h : d ∈ rng lo n) : ∃ i : Nat, i < n ∧ d = .int (lo + (i : Int)) := by
  obtain ⟨i, hi, rfl⟩ := List.mem_map.mp h
  exact ⟨i, List.mem_range.mp hi, rfl⟩
theorem okR_of {m : Int} (h : -1000000 < m) (h1 : m < 1000000) : okR m = true := by
  unfold okR
  rw [Bool.and_eq_true]
  exact ⟨decide_eq_true (by omega), decide_eq_true (by omega)⟩
def Sm (i : Int) (k : Nat) : Prop := i.natAbs < 2 ^ k
theorem Sm.up {i : Int} {k l : Nat} (h : Sm i k) (hk : k ≤ l) : Sm i l := Nat.lt_of_lt_of_le h (Nat.pow_le_pow_right (by decide) hk)
theorem Sm.mul {i j : Int} {k l : Nat} (h : Sm i k) (h' : Sm j l) : Sm (i * j) (k + l) := by
  unfold Sm
  rw [Int.natAbs_mul, Nat.pow_add]
  exact Nat.mul_lt_mul'' h h'
theorem Sm.sub {i j : Int} {k : Nat} (h : Sm i k) (h' : Sm j k) : Sm (i - j) (k + 1) := by
  unfold Sm at *
  rw [Nat.pow_succ]
  have := Int.natAbs_sub_le i j
  omega
theorem Sm.log {i : Int} {k : Nat} (h : Sm i k) (hk : 0 < k) : i.natAbs.log2 < k := by
  by_cases z : i.natAbs = 0
  · rw [z]; exact hk
  · exact (Nat.log2_lt z).mpr h
theorem Sm.okMul {i j : Int} {k l : Nat} (h : Sm i k) (h' : Sm j l) (hk : k + l ≤ 900000) : okMul i j = true := by
  have h1 := (h.up (Nat.le_succ k)).log (Nat.succ_pos k)
  have h2 := (h'.up (Nat.le_succ l)).log (Nat.succ_pos l)
  unfold Bk.okMul
  exact decide_eq_true (by omega)
def vq (q : Rat) : D := .tup [.int q.num, .int (q.den : Int)]
/-- numerator and denominator -/
def Ht (q : Rat) (k : Nat) : Prop := Sm q.num k ∧ Sm (q.den : Int) k
theorem Ht.up {q : Rat} {k l : Nat} (h : Ht q k) (hk : k ≤ l) : Ht q l := ⟨h.1.up hk, h.2.up hk⟩
theorem natAbs_ediv_le {n g : Int} (hd : g ∣ n) : (n / g).natAbs ≤ n.natAbs := by
  obtain ⟨c, rfl⟩ := hd
  by_cases z : g = 0
  · subst z; simp
  · rw [Int.mul_ediv_cancel_left c z, Int.natAbs_mul]
    exact Nat.le_mul_of_pos_left _ (by omega)
theorem ht_divInt {n d : Int} {k : Nat} (hd : d ≠ 0) (hn : Sm n k) (hk : Sm d k) : Ht (Rat.divInt n d) k := by
  constructor
  · rw [Rat.num_divInt]
    refine Nat.lt_of_le_of_lt (natAbs_ediv_le ?_) ?_
    · exact Int.dvd_trans (Int.gcd_dvd_right d n) (Int.dvd_mul_left _ _)
    · rw [Int.natAbs_mul]
      have : d.sign.natAbs = 1 := by
        rcases Int.lt_or_gt_of_ne hd with h | h
        · rw [Int.sign_eq_neg_one_of_neg h]; rfl
        · rw [Int.sign_eq_one_of_pos h]; rfl
      rw [this, Nat.one_mul]
      exact hn
  · rw [Rat.den_divInt, if_neg hd]
    unfold Sm at *
    rw [Int.natAbs_natCast]
    exact Nat.lt_of_le_of_lt (Nat.div_le_self _ _) hk
theorem divInt_self (q : Rat) : Rat.divInt q.num (q.den : Int) = q := by
  rw [Rat.divInt_ofNat]
  exact Rat.mkRat_self q
theorem den_ne (q : Rat) : (q.den : Int) ≠ 0 := by
  have := q.den_nz
  omega
theorem mul_divInt (a b : Rat) : Rat.divInt (a.num * b.num) (a.den * b.den) = a * b := by
  rw [← Rat.divInt_mul_divInt, divInt_self, divInt_self]
theorem sub_divInt (a b : Rat) : Rat.divInt (a.num * b.den - b.num * a.den) (a.den * b.den) = a - b := by
  rw [← Rat.divInt_sub_divInt _ _ (den_ne a) (den_ne b), divInt_self, divInt_self]
theorem Ht.mul {a b : Rat} {k l : Nat} (h : Ht a k) (h' : Ht b l) : Ht (a * b) (k + l) := by
  rw [← mul_divInt]
  exact ht_divInt (Int.mul_ne_zero (den_ne a) (den_ne b)) (h.1.mul h'.1) (h.2.mul h'.2)
theorem Ht.sub {a b : Rat} {k l : Nat} (h : Ht a k) (h' : Ht b l) : Ht (a - b) (k + l + 1) := by
  rw [← sub_divInt]
  have h1 := h.1.mul h'.2
  have h2 := h'.1.mul h.2
  rw [Nat.add_comm l k] at h2
  exact ht_divInt (Int.mul_ne_zero (den_ne a) (den_ne b)) (h1.sub h2) ((h.2.mul h'.2).up (Nat.le_succ _))
theorem Ht.int {i : Int} {k : Nat} (h : Sm i k) (hk : 0 < k) : Ht (i : Rat) k := ⟨h, by
  show (1 : Int).natAbs < 2 ^ k
  exact Nat.one_lt_two_pow (by omega)⟩
end Bk
namespace Bk
open PySem L2
theorem xfor_ok {it : M (List D)} {tg : D → Gam → Option Gam} {b : MS} {G G1 : Gam} {ds : List D} {o : Option (Fl × Gam)} (h : it G = some (ds, G1)) (h2 : xforL tg b ds G1 = o) : xfor it tg b G = o := by
  unfold xfor
  rw [h]
  exact h2
theorem xrange1_ok {a : M (List D)} {G G1 : Gam} {n : Int} (h : a G = some ([.int n], G1)) (h1 : okR n = true) : xrange1 a G = some (rng 0 n.toNat, G1) := by
  unfold xrange1
  rw [h]
  simp only [bd_some]
  rw [if_pos h1]
def valQ : D → Rat
  | .int i => (i : Rat)
  | .tup [.int n, .int d] => Rat.divInt n d
  | _ => 0
def IsV1 (d : D) : Prop := (∃ i, d = .int i) ∨ ∃ q, d = vq q
/-- two rows, item by item, a value made of each two -/
def f2 (g : Rat → Rat → Rat) : D → D
  | .tup [x, y] => vq (g (valQ x) (valQ y))
  | d => d
def Ln (k : Nat) (out : List D) : Prop := ∀ x ∈ out, IsV1 x ∧ Ht (valQ x) k
theorem Ln.nil {k : Nat} : Ln k [] := fun _ h => nomatch h
theorem Ln.push {k : Nat} {out : List D} {d : D} (h : Ln k out) (hd : IsV1 d ∧ Ht (valQ d) k) : Ln k (out ++ [d]) := fun x hx => by
  rcases List.mem_append.mp hx with h1 | h1
  · exact h x h1
  · rw [List.mem_singleton.mp h1]; exact hd
theorem Ln.len {k : Nat} {ds : List D} (h : Ln k ds) : ∀ x ∈ ds, IsV1 x := fun x hx => (h x hx).1
end Bk
namespace Bk
open PySem L2
def dd : Option Rat → List Rat → List Rat
  | _, [] => []
  | p, x :: xs => if p = some x then dd (some x) xs else x :: dd (some x) xs
end Bk
namespace Bk
open PySem L2
theorem xsl_ok {o : D → Option Int → Option Int → Option R} {a : M R} {l h : MO} {G G1 G2 G3 : Gam} {x r : R} {i j : Option Int} (ha : a G = some (x, G1)) (hl : l G1 = some (i, G2)) (hh : h G2 = some (j, G3)) (ho : o x.d i j = some r) : xsl o a l h G = some (r, G3) := by
  unfold xsl
  rw [ha]
  simp only [bd_some, hl, hh, ho]
end Bk
namespace Bk
open PySem L2
/-- d holds a list or a tuple of ds -/
def isSq (d : D) (ds : List D) : Prop := d = .lst ds ∨ d = .tup ds ∨ d = .frz ds
theorem isSq.seq {d : D} {ds : List D} (h : isSq d ds) : seqD d = some ds := by
  rcases h with rfl | rfl | rfl <;> rfl
end Bk
namespace Bk
open PySem L2
def mono (n : Nat) : List Rat := List.replicate n 0 ++ [1]
theorem cut_nat {xs : List D} {i j : Nat} (h : i ≤ j) : cutD xs (some (i : Int)) (some (j : Int)) = (xs.drop i).take (j - i) := by
  unfold cutD
  rw [HT.sIx_nat, HT.sIx_nat]
  by_cases z : xs.length ≤ i
  · rw [List.drop_eq_nil_of_le (by omega), List.drop_eq_nil_of_le z]
    simp
  · rw [Nat.min_eq_left (by omega : i ≤ xs.length)]
    by_cases y : j ≤ xs.length
    · rw [Nat.min_eq_left y]
    · rw [Nat.min_eq_right (by omega), List.take_of_length_le (by rw [List.length_drop]; omega), List.take_of_length_le (by rw [List.length_drop]; omega)]
end Bk
namespace Bk
open PySem L2
theorem xseqI_okR {a : M R} {G G1 : Gam} {r : R} {ds : List D} (h : a G = some (r, G1)) (hd : seqD r.d = some ds) : xseqI a G = some (ds, G1) := by
  unfold xseqI
  rw [h]
  simp only [bd_some, hd]
theorem number12 {ns : List Int} {k : Nat} (hk : k < 64) : ∃ n : Int, r_w_number [.frz (ns.map .int), .int (k : Int)] = some (.im (.int n)) ∧ 0 ≤ n ∧ n < 6 := by
  obtain ⟨c, hc⟩ : ∃ c : List Int, cutD (ns.map D.int) none (some 50) = c.map D.int := ⟨ns.take 50, by
    have := cut_nat (xs := ns.map D.int) (i := 0) (j := 50) (Nat.zero_le _)
    rw [List.drop_zero, Nat.sub_zero] at this
    rw [List.map_take]
    exact this⟩
  obtain ⟨G', g1, z, x3, -, -, rfl⟩ := xforL_inv (tg := tgn 3) (b := b_w_number_1) (fun G => ∃ z : Int, ∃ x3 : Ent, 0 ≤ z ∧ z < 1000003 ∧ G = [Ent.im (.frz (ns.map .int)), .im (.int k), .im (.int z), x3]) (ds := c.map D.int) (G := [.im (.frz (ns.map .int)), .im (.int k),   .im (.int (41 + k)), .un]) ⟨_, _, by omega, by omega, rfl⟩ (fun d hd G hG => by
    obtain ⟨z, x3, z0, z9, rfl⟩ := hG
    obtain ⟨i, _, rfl⟩ := List.mem_map.mp hd
    refine ⟨[.im (.frz (ns.map .int)), .im (.int k), .im (.int z), .im (.int i)], [.im (.frz (ns.map .int)), .im (.int k), .im (.int ((z * 43 + (if i < 0 then -i else i).fmod 1000003 + k).fmod 1000003)), .im (.int i)], rfl, .inl ?_, _, _, Int.fmod_nonneg_of_pos _ (by decide), Int.fmod_lt_of_pos _ (by decide), rfl⟩
    have mul : opMul (.int z) (.int 43) = some (.im (.int (z * 43))) := if_pos (Sm.okMul (k := 21) (l := 6) (by unfold Sm; omega) (by unfold Sm; decide) (by decide))
    exact xset_e (xo2 (x := .int (z * 43 + (if i < 0 then -i else i).fmod 1000003 + k)) (y := .int 1000003) (xcb_ok (xc1 (d := .int (z * 43 + (if i < 0 then -i else i).fmod 1000003 + k)) (xo2 (x := .int (z * 43 + (if i < 0 then -i else i).fmod 1000003)) (y := .int k) (xo2 (x := .int (z * 43)) (y := .int ((if i < 0 then -i else i).fmod 1000003)) (xo2 (x := .int z) (y := .int 43) rfl rfl mul) (xo2 (x := .int (if i < 0 then -i else i)) (y := .int 1000003) (xcb_ok (xc1 (d := .int (if i < 0 then -i else i)) (xcb_ok (xc1 (d := .int i) rfl xnil_ok) rfl) xnil_ok) rfl) rfl rfl) rfl) rfl rfl) xnil_ok) rfl) rfl rfl) rfl)
  have cut : slB (.frz (ns.map .int)) none (some 50) = some (.ol (c.map .int)) := by
    show some (R.ol (cutD (ns.map D.int) none (some 50))) = _
    rw [hc]
  refine ⟨(z.fdiv 3).fmod 6, ?_, Int.fmod_nonneg_of_pos _ (by decide), Int.fmod_lt_of_pos _ (by decide)⟩
  refine runF_st rfl ?_
  refine st_nx (G1 := [.im (.frz (ns.map .int)), .im (.int k), .im (.int (41 + k)), .un]) (xset_e (xo2 (x := .int 41) (y := .int k) rfl rfl rfl) rfl) ?_
  refine st_nx (by exact xfor_ok (xseqI_okR (r := .ol (c.map D.int)) (xsl_ok (o := slB) (G := [.im (.frz (ns.map .int)), .im (.int k), .im (.int (41 + k)), .un]) (x := .im (.frz (ns.map .int))) (i := none) (j := some 50) rfl rfl rfl cut) rfl) g1) ?_
  exact st_ret (G1 := [.im (.frz (ns.map .int)), .im (.int k), .im (.int z), x3]) (xo2 (x := .int (z.fdiv 3)) (y := .int 6) (xcb_ok (xc1 (d := .int (z.fdiv 3)) (xo2 (x := .int z) (y := .int 3) rfl rfl rfl) xnil_ok) rfl) rfl rfl)
theorem of_run12 {x0 : Ent} {o : Option (Fl × Gam)} (h : (res12 o).map (fun G => (G[0]?, G.length)) = some (some x0, 7)) : ∃ y1 y2 y3 y4 y5 y6, o = some (.nx, [x0, y1, y2, y3, y4, y5, y6]) := by
  match o, h with
  | some (.nx, [a, y1, y2, y3, y4, y5, y6]), h =>
    have := (Prod.mk.inj (Option.some.inj h)).1
    cases this
    exact ⟨y1, y2, y3, y4, y5, y6, rfl⟩
theorem run12 {n : Int} (h0 : 0 ≤ n) (h6 : n < 6) (x0 x1 x3 x4 x5 x6 : Ent) : ∃ y1 y2 y3 y4 y5 y6, t12 [x0, x1, .im (.int n), x3, x4, x5, x6] = some (.nx, [x0, y1, y2, y3, y4, y5, y6]) := by
  have c : n = 0 ∨ n = 1 ∨ n = 2 ∨ n = 3 ∨ n = 4 ∨ n = 5 := by omega
  rcases c with rfl | rfl | rfl | rfl | rfl | rfl
  · exact of_run12 (run12_0 x0 x1 x3 x4 x5 x6)
  · exact of_run12 (run12_1 x0 x1 x3 x4 x5 x6)
  · exact of_run12 (run12_2 x0 x1 x3 x4 x5 x6)
  · exact of_run12 (run12_3 x0 x1 x3 x4 x5 x6)
  · exact of_run12 (run12_4 x0 x1 x3 x4 x5 x6)
  · exact of_run12 (run12_5 x0 x1 x3 x4 x5 x6)
theorem law_true : ∀ ns : List Int, ns.length ≤ 63 → r_law [.frz (ns.map .int)] = some (.im (.bl true)) := fun ns hn => by
  have hlen : cbLen [.frz (ns.map .int)] = some (.im (.int ns.length)) := by
    show some (R.im (.int (((ns.map D.int).length : Nat) : Int))) = _
    rw [List.length_map]
  have e1 : xcb cbMax2 (xcons (xc (.int 1)) (xcons (xcb cbMin2 (xcons (xc (.int 4)) (xcons (xcb cbLen (xcons (xv 0) xnil)) xnil))) xnil)) [.im (.frz (ns.map .int)), .un, .un, .un, .un, .un, .un] = some (.im (.int (if (if (ns.length : Int) < 4 then (ns.length : Int) else 4) > 1 then (if (ns.length : Int) < 4 then (ns.length : Int) else 4) else 1)), [.im (.frz (ns.map .int)), .un, .un, .un, .un, .un, .un]) :=
    xcb_ok (xc1 rfl (xc1 (xcb_ok (xc1 rfl (xc1 (xcb_ok (xc1 rfl xnil_ok) hlen) xnil_ok)) rfl) xnil_ok)) rfl
  generalize hc : (if (if (ns.length : Int) < 4 then (ns.length : Int) else 4) > 1 then (if (ns.length : Int) < 4 then (ns.length : Int) else 4) else 1) = c at e1
  have c9 : 0 < c ∧ c ≤ 4 := by
    rw [← hc]
    split <;> (try split at *) <;> omega
  obtain ⟨G', g1, x1, x2, x3, x4, x5, x6, rfl⟩ := xforL_inv (tg := tgn 1) (b := b_law_1)
    (fun G => ∃ x1 x2 x3 x4 x5 x6, G = [Ent.im (.frz (ns.map .int)), x1, x2, x3, x4, x5, x6]) (ds := rng 0 c.toNat) (G := [.im (.frz (ns.map .int)), .un, .un, .un, .un, .un, .un]) ⟨_, _, _, _, _, _, rfl⟩ (fun e he G hG => by
    obtain ⟨x1, x2, x3, x4, x5, x6, rfl⟩ := hG
    obtain ⟨k, hk, rfl⟩ := rng_mem he
    obtain ⟨n, e2, n0, n6⟩ := number12 (ns := ns) (k := k) (by omega)
    obtain ⟨y1, y2, y3, y4, y5, y6, e3⟩ := run12 n0 n6 (.im (.frz (ns.map .int))) (.im (.int k)) x3 x4 x5 x6
    refine ⟨[Ent.im (.frz (ns.map .int)), .im (.int (k : Int)), x2, x3, x4, x5, x6], _, ?_, .inl ?_, y1, y2, y3, y4, y5, y6, rfl⟩
    · rw [Int.zero_add]
      rfl
    · rw [law1_12]
      exact (xseq_nx (G1 := [.im (.frz (ns.map .int)), .im (.int k), .im (.int n), x3, x4, x5, x6]) (xset_e (xcall_ok (xc1 rfl (xc1 rfl xnil_ok)) e2) rfl)).trans e3)
  refine runF_st rfl ?_
  refine st_nx (by exact xfor_ok (xrange1_ok (xc1 e1 xnil_ok) (okR_of (by omega) (by omega))) g1) ?_
  exact st_ret (G1 := [.im (.frz (ns.map .int)), x1, x2, x3, x4, x5, x6]) rfl
end Bk
namespace Bk
open PySem L2 PyProof.Rows
theorem all_mk {l : PySem.W.OpenLaw} {w : World} {K : PySem.W.Frag} {h : Heap} {mg : PySem.Str → Option Value} {fa : Addr} (X : K.In h) (G : h.Ns mainGlobals mg) (hfa : mg "law" = some (.ref fa))
    {C_Block : Addr} (aC_Block : PySem.W.nsIn K mainGlobals (cName 3) = some (some (.ref C_Block))) (pg_Block : PySem.W.plainGet K C_Block Str.empty = true) (hd_Block : PySem.W.hasDictIn K C_Block = true) (po_Block : PySem.W.plainOver K C_Block = true) (sa_Block : PySem.W.findIn K (.ref C_Block) "__setattr__" = some (some (.builtin "object.__setattr__")))
    (na_Block_0 : PySem.W.findIn K (.ref C_Block) "live" = some none)
    (na_Block_1 : PySem.W.findIn K (.ref C_Block) "kept" = some none)
    {C_Desk : Addr} (aC_Desk : PySem.W.nsIn K mainGlobals (cName 4) = some (some (.ref C_Desk))) (pg_Desk : PySem.W.plainGet K C_Desk Str.empty = true) (hd_Desk : PySem.W.hasDictIn K C_Desk = true) (po_Desk : PySem.W.plainOver K C_Desk = true) (sa_Desk : PySem.W.findIn K (.ref C_Desk) "__setattr__" = some (some (.builtin "object.__setattr__")))
    (na_Desk_0 : PySem.W.findIn K (.ref C_Desk) "kept" = some none)
    {C_Live : Addr} (aC_Live : PySem.W.nsIn K mainGlobals (cName 2) = some (some (.ref C_Live))) (pg_Live : PySem.W.plainGet K C_Live Str.empty = true) (hd_Live : PySem.W.hasDictIn K C_Live = true) (po_Live : PySem.W.plainOver K C_Live = true) (sa_Live : PySem.W.findIn K (.ref C_Live) "__setattr__" = some (some (.builtin "object.__setattr__")))
    (na_Live_0 : PySem.W.findIn K (.ref C_Live) "past" = some none)
    {C_Rule : Addr} (aC_Rule : PySem.W.nsIn K mainGlobals (cName 0) = some (some (.ref C_Rule))) (pg_Rule : PySem.W.plainGet K C_Rule Str.empty = true) (hd_Rule : PySem.W.hasDictIn K C_Rule = true) (po_Rule : PySem.W.plainOver K C_Rule = true) (sa_Rule : PySem.W.findIn K (.ref C_Rule) "__setattr__" = some (some (.builtin "object.__setattr__")))
    (na_Rule_0 : PySem.W.findIn K (.ref C_Rule) "low" = some none)
    (na_Rule_1 : PySem.W.findIn K (.ref C_Rule) "high" = some none)
    (na_Rule_2 : PySem.W.findIn K (.ref C_Rule) "weights" = some none)
    (na_Rule_3 : PySem.W.findIn K (.ref C_Rule) "shares" = some none)
    {f_Desk_init : Addr} {od_Desk_init an_Desk_init : Option Addr} {sl_Desk_init : Array (Option Value)} {oc_Desk_init kV_Desk_init dc_Desk_init pc_Desk_init cd_Desk_init ct_Desk_init : Value}
    (a_Desk_init : PySem.W.findIn K (.ref C_Desk) "__init__" = some (some (.ref f_Desk_init))) (l_Desk_init : K.lookup f_Desk_init = some ⟨oc_Desk_init, od_Desk_init, .func (PySem.W.fnOf "__init__" "Desk.__init__" (defArgs s_Desk_init) (defBody s_Desk_init) (defScope s_Desk_init) .none kV_Desk_init dc_Desk_init pc_Desk_init an_Desk_init cd_Desk_init ct_Desk_init), sl_Desk_init⟩) (c_Desk_init : PySem.W.codeIn K cd_Desk_init "Desk.__init__" = true) (k_Desk_init : PySem.W.keepIn K (.ref f_Desk_init) = true)
    (i_Desk_init : PySem.W.isFn K (.ref f_Desk_init) = true)
    (mk_Desk : PySem.W.makesIn K C_Desk = true) (kc_Desk : PySem.W.keepIn K (.ref C_Desk) = true)
    {f_Desk_has : Addr} {od_Desk_has an_Desk_has : Option Addr} {sl_Desk_has : Array (Option Value)} {oc_Desk_has kV_Desk_has dc_Desk_has pc_Desk_has cd_Desk_has ct_Desk_has : Value}
    (a_Desk_has : PySem.W.findIn K (.ref C_Desk) "has" = some (some (.ref f_Desk_has))) (l_Desk_has : K.lookup f_Desk_has = some ⟨oc_Desk_has, od_Desk_has, .func (PySem.W.fnOf "has" "Desk.has" (defArgs s_Desk_has) (defBody s_Desk_has) (defScope s_Desk_has) .none kV_Desk_has dc_Desk_has pc_Desk_has an_Desk_has cd_Desk_has ct_Desk_has), sl_Desk_has⟩) (c_Desk_has : PySem.W.codeIn K cd_Desk_has "Desk.has" = true) (k_Desk_has : PySem.W.keepIn K (.ref f_Desk_has) = true)
    (i_Desk_has : PySem.W.isFn K (.ref f_Desk_has) = true)
    {f_text_of : Addr} {od_text_of an_text_of : Option Addr} {sl_text_of : Array (Option Value)} {oc_text_of kV_text_of dc_text_of pc_text_of cd_text_of ct_text_of : Value}
    (a_text_of : PySem.W.nsIn K mainGlobals "text_of" = some (some (.ref f_text_of))) (l_text_of : K.lookup f_text_of = some ⟨oc_text_of, od_text_of, .func (PySem.W.fnOf "text_of" "text_of" (defArgs s_text_of) (defBody s_text_of) (defScope s_text_of) .none kV_text_of dc_text_of pc_text_of an_text_of cd_text_of ct_text_of), sl_text_of⟩) (c_text_of : PySem.W.codeIn K cd_text_of "text_of" = true) (k_text_of : PySem.W.keepIn K (.ref f_text_of) = true)
    {f_Rule_str : Addr} {od_Rule_str an_Rule_str : Option Addr} {sl_Rule_str : Array (Option Value)} {oc_Rule_str kV_Rule_str dc_Rule_str pc_Rule_str cd_Rule_str ct_Rule_str : Value}
    (a_Rule_str : PySem.W.findIn K (.ref C_Rule) "__str__" = some (some (.ref f_Rule_str))) (l_Rule_str : K.lookup f_Rule_str = some ⟨oc_Rule_str, od_Rule_str, .func (PySem.W.fnOf "__str__" "Rule.__str__" (defArgs s_Rule_str) (defBody s_Rule_str) (defScope s_Rule_str) .none kV_Rule_str dc_Rule_str pc_Rule_str an_Rule_str cd_Rule_str ct_Rule_str), sl_Rule_str⟩) (c_Rule_str : PySem.W.codeIn K cd_Rule_str "Rule.__str__" = true) (k_Rule_str : PySem.W.keepIn K (.ref f_Rule_str) = true)
    (i_Rule_str : PySem.W.isFn K (.ref f_Rule_str) = true)
    {f_Rule_eq : Addr} {od_Rule_eq an_Rule_eq : Option Addr} {sl_Rule_eq : Array (Option Value)} {oc_Rule_eq kV_Rule_eq dc_Rule_eq pc_Rule_eq cd_Rule_eq ct_Rule_eq : Value}
    (a_Rule_eq : PySem.W.findIn K (.ref C_Rule) "__eq__" = some (some (.ref f_Rule_eq))) (l_Rule_eq : K.lookup f_Rule_eq = some ⟨oc_Rule_eq, od_Rule_eq, .func (PySem.W.fnOf "__eq__" "Rule.__eq__" (defArgs s_Rule_eq) (defBody s_Rule_eq) (defScope s_Rule_eq) .none kV_Rule_eq dc_Rule_eq pc_Rule_eq an_Rule_eq cd_Rule_eq ct_Rule_eq), sl_Rule_eq⟩) (c_Rule_eq : PySem.W.codeIn K cd_Rule_eq "Rule.__eq__" = true) (k_Rule_eq : PySem.W.keepIn K (.ref f_Rule_eq) = true)
    (i_Rule_eq : PySem.W.isFn K (.ref f_Rule_eq) = true)
    {f_is_sequence : Addr} {od_is_sequence an_is_sequence : Option Addr} {sl_is_sequence : Array (Option Value)} {oc_is_sequence kV_is_sequence dc_is_sequence pc_is_sequence cd_is_sequence ct_is_sequence : Value}
    (a_is_sequence : PySem.W.nsIn K mainGlobals "is_sequence" = some (some (.ref f_is_sequence))) (l_is_sequence : K.lookup f_is_sequence = some ⟨oc_is_sequence, od_is_sequence, .func (PySem.W.fnOf "is_sequence" "is_sequence" (defArgs s_is_sequence) (defBody s_is_sequence) (defScope s_is_sequence) .none kV_is_sequence dc_is_sequence pc_is_sequence an_is_sequence cd_is_sequence ct_is_sequence), sl_is_sequence⟩) (c_is_sequence : PySem.W.codeIn K cd_is_sequence "is_sequence" = true) (k_is_sequence : PySem.W.keepIn K (.ref f_is_sequence) = true)
    {f_is_less : Addr} {od_is_less an_is_less : Option Addr} {sl_is_less : Array (Option Value)} {oc_is_less kV_is_less dc_is_less pc_is_less cd_is_less ct_is_less : Value}
    (a_is_less : PySem.W.nsIn K mainGlobals "is_less" = some (some (.ref f_is_less))) (l_is_less : K.lookup f_is_less = some ⟨oc_is_less, od_is_less, .func (PySem.W.fnOf "is_less" "is_less" (defArgs s_is_less) (defBody s_is_less) (defScope s_is_less) .none kV_is_less dc_is_less pc_is_less an_is_less cd_is_less ct_is_less), sl_is_less⟩) (c_is_less : PySem.W.codeIn K cd_is_less "is_less" = true) (k_is_less : PySem.W.keepIn K (.ref f_is_less) = true)
    {f_is_integer : Addr} {od_is_integer an_is_integer : Option Addr} {sl_is_integer : Array (Option Value)} {oc_is_integer kV_is_integer dc_is_integer pc_is_integer cd_is_integer ct_is_integer : Value}
    (a_is_integer : PySem.W.nsIn K mainGlobals "is_integer" = some (some (.ref f_is_integer))) (l_is_integer : K.lookup f_is_integer = some ⟨oc_is_integer, od_is_integer, .func (PySem.W.fnOf "is_integer" "is_integer" (defArgs s_is_integer) (defBody s_is_integer) (defScope s_is_integer) .none kV_is_integer dc_is_integer pc_is_integer an_is_integer cd_is_integer ct_is_integer), sl_is_integer⟩) (c_is_integer : PySem.W.codeIn K cd_is_integer "is_integer" = true) (k_is_integer : PySem.W.keepIn K (.ref f_is_integer) = true)
    {f_divisor : Addr} {od_divisor an_divisor : Option Addr} {sl_divisor : Array (Option Value)} {oc_divisor kV_divisor dc_divisor pc_divisor cd_divisor ct_divisor : Value}
    (a_divisor : PySem.W.nsIn K mainGlobals "divisor" = some (some (.ref f_divisor))) (l_divisor : K.lookup f_divisor = some ⟨oc_divisor, od_divisor, .func (PySem.W.fnOf "divisor" "divisor" (defArgs s_divisor) (defBody s_divisor) (defScope s_divisor) .none kV_divisor dc_divisor pc_divisor an_divisor cd_divisor ct_divisor), sl_divisor⟩) (c_divisor : PySem.W.codeIn K cd_divisor "divisor" = true) (k_divisor : PySem.W.keepIn K (.ref f_divisor) = true)
    {f_is_pair : Addr} {od_is_pair an_is_pair : Option Addr} {sl_is_pair : Array (Option Value)} {oc_is_pair kV_is_pair dc_is_pair pc_is_pair cd_is_pair ct_is_pair : Value}
    (a_is_pair : PySem.W.nsIn K mainGlobals "is_pair" = some (some (.ref f_is_pair))) (l_is_pair : K.lookup f_is_pair = some ⟨oc_is_pair, od_is_pair, .func (PySem.W.fnOf "is_pair" "is_pair" (defArgs s_is_pair) (defBody s_is_pair) (defScope s_is_pair) .none kV_is_pair dc_is_pair pc_is_pair an_is_pair cd_is_pair ct_is_pair), sl_is_pair⟩) (c_is_pair : PySem.W.codeIn K cd_is_pair "is_pair" = true) (k_is_pair : PySem.W.keepIn K (.ref f_is_pair) = true)
    {f_is_value : Addr} {od_is_value an_is_value : Option Addr} {sl_is_value : Array (Option Value)} {oc_is_value kV_is_value dc_is_value pc_is_value cd_is_value ct_is_value : Value}
    (a_is_value : PySem.W.nsIn K mainGlobals "is_value" = some (some (.ref f_is_value))) (l_is_value : K.lookup f_is_value = some ⟨oc_is_value, od_is_value, .func (PySem.W.fnOf "is_value" "is_value" (defArgs s_is_value) (defBody s_is_value) (defScope s_is_value) .none kV_is_value dc_is_value pc_is_value an_is_value cd_is_value ct_is_value), sl_is_value⟩) (c_is_value : PySem.W.codeIn K cd_is_value "is_value" = true) (k_is_value : PySem.W.keepIn K (.ref f_is_value) = true)
    {f_value_of : Addr} {od_value_of an_value_of : Option Addr} {sl_value_of : Array (Option Value)} {oc_value_of kV_value_of dc_value_of pc_value_of cd_value_of ct_value_of : Value}
    (a_value_of : PySem.W.nsIn K mainGlobals "value_of" = some (some (.ref f_value_of))) (l_value_of : K.lookup f_value_of = some ⟨oc_value_of, od_value_of, .func (PySem.W.fnOf "value_of" "value_of" (defArgs s_value_of) (defBody s_value_of) (defScope s_value_of) .none kV_value_of dc_value_of pc_value_of an_value_of cd_value_of ct_value_of), sl_value_of⟩) (c_value_of : PySem.W.codeIn K cd_value_of "value_of" = true) (k_value_of : PySem.W.keepIn K (.ref f_value_of) = true)
    {f_is_between : Addr} {od_is_between an_is_between : Option Addr} {sl_is_between : Array (Option Value)} {oc_is_between kV_is_between dc_is_between pc_is_between cd_is_between ct_is_between : Value}
    (a_is_between : PySem.W.nsIn K mainGlobals "is_between" = some (some (.ref f_is_between))) (l_is_between : K.lookup f_is_between = some ⟨oc_is_between, od_is_between, .func (PySem.W.fnOf "is_between" "is_between" (defArgs s_is_between) (defBody s_is_between) (defScope s_is_between) .none kV_is_between dc_is_between pc_is_between an_is_between cd_is_between ct_is_between), sl_is_between⟩) (c_is_between : PySem.W.codeIn K cd_is_between "is_between" = true) (k_is_between : PySem.W.keepIn K (.ref f_is_between) = true)
    {f_is_share : Addr} {od_is_share an_is_share : Option Addr} {sl_is_share : Array (Option Value)} {oc_is_share kV_is_share dc_is_share pc_is_share cd_is_share ct_is_share : Value}
    (a_is_share : PySem.W.nsIn K mainGlobals "is_share" = some (some (.ref f_is_share))) (l_is_share : K.lookup f_is_share = some ⟨oc_is_share, od_is_share, .func (PySem.W.fnOf "is_share" "is_share" (defArgs s_is_share) (defBody s_is_share) (defScope s_is_share) .none kV_is_share dc_is_share pc_is_share an_is_share cd_is_share ct_is_share), sl_is_share⟩) (c_is_share : PySem.W.codeIn K cd_is_share "is_share" = true) (k_is_share : PySem.W.keepIn K (.ref f_is_share) = true)
    {f_is_weight : Addr} {od_is_weight an_is_weight : Option Addr} {sl_is_weight : Array (Option Value)} {oc_is_weight kV_is_weight dc_is_weight pc_is_weight cd_is_weight ct_is_weight : Value}
    (a_is_weight : PySem.W.nsIn K mainGlobals "is_weight" = some (some (.ref f_is_weight))) (l_is_weight : K.lookup f_is_weight = some ⟨oc_is_weight, od_is_weight, .func (PySem.W.fnOf "is_weight" "is_weight" (defArgs s_is_weight) (defBody s_is_weight) (defScope s_is_weight) .none kV_is_weight dc_is_weight pc_is_weight an_is_weight cd_is_weight ct_is_weight), sl_is_weight⟩) (c_is_weight : PySem.W.codeIn K cd_is_weight "is_weight" = true) (k_is_weight : PySem.W.keepIn K (.ref f_is_weight) = true)
    {f_ascending : Addr} {od_ascending an_ascending : Option Addr} {sl_ascending : Array (Option Value)} {oc_ascending kV_ascending dc_ascending pc_ascending cd_ascending ct_ascending : Value}
    (a_ascending : PySem.W.nsIn K mainGlobals "ascending" = some (some (.ref f_ascending))) (l_ascending : K.lookup f_ascending = some ⟨oc_ascending, od_ascending, .func (PySem.W.fnOf "ascending" "ascending" (defArgs s_ascending) (defBody s_ascending) (defScope s_ascending) .none kV_ascending dc_ascending pc_ascending an_ascending cd_ascending ct_ascending), sl_ascending⟩) (c_ascending : PySem.W.codeIn K cd_ascending "ascending" = true) (k_ascending : PySem.W.keepIn K (.ref f_ascending) = true)
    {f_lowest : Addr} {od_lowest an_lowest : Option Addr} {sl_lowest : Array (Option Value)} {oc_lowest kV_lowest dc_lowest pc_lowest cd_lowest ct_lowest : Value}
    (a_lowest : PySem.W.nsIn K mainGlobals "lowest" = some (some (.ref f_lowest))) (l_lowest : K.lookup f_lowest = some ⟨oc_lowest, od_lowest, .func (PySem.W.fnOf "lowest" "lowest" (defArgs s_lowest) (defBody s_lowest) (defScope s_lowest) .none kV_lowest dc_lowest pc_lowest an_lowest cd_lowest ct_lowest), sl_lowest⟩) (c_lowest : PySem.W.codeIn K cd_lowest "lowest" = true) (k_lowest : PySem.W.keepIn K (.ref f_lowest) = true)
    {f_added : Addr} {od_added an_added : Option Addr} {sl_added : Array (Option Value)} {oc_added kV_added dc_added pc_added cd_added ct_added : Value}
    (a_added : PySem.W.nsIn K mainGlobals "added" = some (some (.ref f_added))) (l_added : K.lookup f_added = some ⟨oc_added, od_added, .func (PySem.W.fnOf "added" "added" (defArgs s_added) (defBody s_added) (defScope s_added) .none kV_added dc_added pc_added an_added cd_added ct_added), sl_added⟩) (c_added : PySem.W.codeIn K cd_added "added" = true) (k_added : PySem.W.keepIn K (.ref f_added) = true)
    {f_summed : Addr} {od_summed an_summed : Option Addr} {sl_summed : Array (Option Value)} {oc_summed kV_summed dc_summed pc_summed cd_summed ct_summed : Value}
    (a_summed : PySem.W.nsIn K mainGlobals "summed" = some (some (.ref f_summed))) (l_summed : K.lookup f_summed = some ⟨oc_summed, od_summed, .func (PySem.W.fnOf "summed" "summed" (defArgs s_summed) (defBody s_summed) (defScope s_summed) .none kV_summed dc_summed pc_summed an_summed cd_summed ct_summed), sl_summed⟩) (c_summed : PySem.W.codeIn K cd_summed "summed" = true) (k_summed : PySem.W.keepIn K (.ref f_summed) = true)
    {f_least_shares : Addr} {od_least_shares an_least_shares : Option Addr} {sl_least_shares : Array (Option Value)} {oc_least_shares kV_least_shares dc_least_shares pc_least_shares cd_least_shares ct_least_shares : Value}
    (a_least_shares : PySem.W.nsIn K mainGlobals "least_shares" = some (some (.ref f_least_shares))) (l_least_shares : K.lookup f_least_shares = some ⟨oc_least_shares, od_least_shares, .func (PySem.W.fnOf "least_shares" "least_shares" (defArgs s_least_shares) (defBody s_least_shares) (defScope s_least_shares) .none kV_least_shares dc_least_shares pc_least_shares an_least_shares cd_least_shares ct_least_shares), sl_least_shares⟩) (c_least_shares : PySem.W.codeIn K cd_least_shares "least_shares" = true) (k_least_shares : PySem.W.keepIn K (.ref f_least_shares) = true)
    {f_least_weights : Addr} {od_least_weights an_least_weights : Option Addr} {sl_least_weights : Array (Option Value)} {oc_least_weights kV_least_weights dc_least_weights pc_least_weights cd_least_weights ct_least_weights : Value}
    (a_least_weights : PySem.W.nsIn K mainGlobals "least_weights" = some (some (.ref f_least_weights))) (l_least_weights : K.lookup f_least_weights = some ⟨oc_least_weights, od_least_weights, .func (PySem.W.fnOf "least_weights" "least_weights" (defArgs s_least_weights) (defBody s_least_weights) (defScope s_least_weights) .none kV_least_weights dc_least_weights pc_least_weights an_least_weights cd_least_weights ct_least_weights), sl_least_weights⟩) (c_least_weights : PySem.W.codeIn K cd_least_weights "least_weights" = true) (k_least_weights : PySem.W.keepIn K (.ref f_least_weights) = true)
    {f_need_stretch : Addr} {od_need_stretch an_need_stretch : Option Addr} {sl_need_stretch : Array (Option Value)} {oc_need_stretch kV_need_stretch dc_need_stretch pc_need_stretch cd_need_stretch ct_need_stretch : Value}
    (a_need_stretch : PySem.W.nsIn K mainGlobals "need_stretch" = some (some (.ref f_need_stretch))) (l_need_stretch : K.lookup f_need_stretch = some ⟨oc_need_stretch, od_need_stretch, .func (PySem.W.fnOf "need_stretch" "need_stretch" (defArgs s_need_stretch) (defBody s_need_stretch) (defScope s_need_stretch) .none kV_need_stretch dc_need_stretch pc_need_stretch an_need_stretch cd_need_stretch ct_need_stretch), sl_need_stretch⟩) (c_need_stretch : PySem.W.codeIn K cd_need_stretch "need_stretch" = true) (k_need_stretch : PySem.W.keepIn K (.ref f_need_stretch) = true)
    {f_Rule_init : Addr} {od_Rule_init an_Rule_init : Option Addr} {sl_Rule_init : Array (Option Value)} {oc_Rule_init kV_Rule_init dc_Rule_init pc_Rule_init cd_Rule_init ct_Rule_init : Value}
    {dT_Rule_init : Addr} {oT_Rule_init : Obj} {gi_Rule_init : List Value} {gn_Rule_init : Nat} (t_Rule_init : K.lookup dT_Rule_init = some oT_Rule_init) (td_Rule_init : oT_Rule_init.data = .seq gi_Rule_init.toArray gn_Rule_init) (v_Rule_init : ∃ vs, Vals vs gi_Rule_init ∧ ∀ H, DRs K H vs [.tup [], .tup []])
    (a_Rule_init : PySem.W.findIn K (.ref C_Rule) "__init__" = some (some (.ref f_Rule_init))) (l_Rule_init : K.lookup f_Rule_init = some ⟨oc_Rule_init, od_Rule_init, .func (PySem.W.fnOf "__init__" "Rule.__init__" (defArgs s_Rule_init) (defBody s_Rule_init) (defScope s_Rule_init) (.ref dT_Rule_init) kV_Rule_init dc_Rule_init pc_Rule_init an_Rule_init cd_Rule_init ct_Rule_init), sl_Rule_init⟩) (c_Rule_init : PySem.W.codeIn K cd_Rule_init "Rule.__init__" = true) (k_Rule_init : PySem.W.keepIn K (.ref f_Rule_init) = true)
    (i_Rule_init : PySem.W.isFn K (.ref f_Rule_init) = true)
    (mk_Rule : PySem.W.makesIn K C_Rule = true) (kc_Rule : PySem.W.keepIn K (.ref C_Rule) = true)
    {f_Rule_neg : Addr} {od_Rule_neg an_Rule_neg : Option Addr} {sl_Rule_neg : Array (Option Value)} {oc_Rule_neg kV_Rule_neg dc_Rule_neg pc_Rule_neg cd_Rule_neg ct_Rule_neg : Value}
    (a_Rule_neg : PySem.W.findIn K (.ref C_Rule) "__neg__" = some (some (.ref f_Rule_neg))) (l_Rule_neg : K.lookup f_Rule_neg = some ⟨oc_Rule_neg, od_Rule_neg, .func (PySem.W.fnOf "__neg__" "Rule.__neg__" (defArgs s_Rule_neg) (defBody s_Rule_neg) (defScope s_Rule_neg) .none kV_Rule_neg dc_Rule_neg pc_Rule_neg an_Rule_neg cd_Rule_neg ct_Rule_neg), sl_Rule_neg⟩) (c_Rule_neg : PySem.W.codeIn K cd_Rule_neg "Rule.__neg__" = true) (k_Rule_neg : PySem.W.keepIn K (.ref f_Rule_neg) = true)
    (i_Rule_neg : PySem.W.isFn K (.ref f_Rule_neg) = true)
    {f_Rule_add : Addr} {od_Rule_add an_Rule_add : Option Addr} {sl_Rule_add : Array (Option Value)} {oc_Rule_add kV_Rule_add dc_Rule_add pc_Rule_add cd_Rule_add ct_Rule_add : Value}
    (a_Rule_add : PySem.W.findIn K (.ref C_Rule) "__add__" = some (some (.ref f_Rule_add))) (l_Rule_add : K.lookup f_Rule_add = some ⟨oc_Rule_add, od_Rule_add, .func (PySem.W.fnOf "__add__" "Rule.__add__" (defArgs s_Rule_add) (defBody s_Rule_add) (defScope s_Rule_add) .none kV_Rule_add dc_Rule_add pc_Rule_add an_Rule_add cd_Rule_add ct_Rule_add), sl_Rule_add⟩) (c_Rule_add : PySem.W.codeIn K cd_Rule_add "Rule.__add__" = true) (k_Rule_add : PySem.W.keepIn K (.ref f_Rule_add) = true)
    (i_Rule_add : PySem.W.isFn K (.ref f_Rule_add) = true)
    {f_Rule_sub : Addr} {od_Rule_sub an_Rule_sub : Option Addr} {sl_Rule_sub : Array (Option Value)} {oc_Rule_sub kV_Rule_sub dc_Rule_sub pc_Rule_sub cd_Rule_sub ct_Rule_sub : Value}
    (a_Rule_sub : PySem.W.findIn K (.ref C_Rule) "__sub__" = some (some (.ref f_Rule_sub))) (l_Rule_sub : K.lookup f_Rule_sub = some ⟨oc_Rule_sub, od_Rule_sub, .func (PySem.W.fnOf "__sub__" "Rule.__sub__" (defArgs s_Rule_sub) (defBody s_Rule_sub) (defScope s_Rule_sub) .none kV_Rule_sub dc_Rule_sub pc_Rule_sub an_Rule_sub cd_Rule_sub ct_Rule_sub), sl_Rule_sub⟩) (c_Rule_sub : PySem.W.codeIn K cd_Rule_sub "Rule.__sub__" = true) (k_Rule_sub : PySem.W.keepIn K (.ref f_Rule_sub) = true)
    (i_Rule_sub : PySem.W.isFn K (.ref f_Rule_sub) = true)
    {f_trimmed : Addr} {od_trimmed an_trimmed : Option Addr} {sl_trimmed : Array (Option Value)} {oc_trimmed kV_trimmed dc_trimmed pc_trimmed cd_trimmed ct_trimmed : Value}
    (a_trimmed : PySem.W.nsIn K mainGlobals "trimmed" = some (some (.ref f_trimmed))) (l_trimmed : K.lookup f_trimmed = some ⟨oc_trimmed, od_trimmed, .func (PySem.W.fnOf "trimmed" "trimmed" (defArgs s_trimmed) (defBody s_trimmed) (defScope s_trimmed) .none kV_trimmed dc_trimmed pc_trimmed an_trimmed cd_trimmed ct_trimmed), sl_trimmed⟩) (c_trimmed : PySem.W.codeIn K cd_trimmed "trimmed" = true) (k_trimmed : PySem.W.keepIn K (.ref f_trimmed) = true)
    {f_integers_of : Addr} {od_integers_of an_integers_of : Option Addr} {sl_integers_of : Array (Option Value)} {oc_integers_of kV_integers_of dc_integers_of pc_integers_of cd_integers_of ct_integers_of : Value}
    (a_integers_of : PySem.W.nsIn K mainGlobals "integers_of" = some (some (.ref f_integers_of))) (l_integers_of : K.lookup f_integers_of = some ⟨oc_integers_of, od_integers_of, .func (PySem.W.fnOf "integers_of" "integers_of" (defArgs s_integers_of) (defBody s_integers_of) (defScope s_integers_of) .none kV_integers_of dc_integers_of pc_integers_of an_integers_of cd_integers_of ct_integers_of), sl_integers_of⟩) (c_integers_of : PySem.W.codeIn K cd_integers_of "integers_of" = true) (k_integers_of : PySem.W.keepIn K (.ref f_integers_of) = true)
    {f_quotient : Addr} {od_quotient an_quotient : Option Addr} {sl_quotient : Array (Option Value)} {oc_quotient kV_quotient dc_quotient pc_quotient cd_quotient ct_quotient : Value}
    (a_quotient : PySem.W.nsIn K mainGlobals "quotient" = some (some (.ref f_quotient))) (l_quotient : K.lookup f_quotient = some ⟨oc_quotient, od_quotient, .func (PySem.W.fnOf "quotient" "quotient" (defArgs s_quotient) (defBody s_quotient) (defScope s_quotient) .none kV_quotient dc_quotient pc_quotient an_quotient cd_quotient ct_quotient), sl_quotient⟩) (c_quotient : PySem.W.codeIn K cd_quotient "quotient" = true) (k_quotient : PySem.W.keepIn K (.ref f_quotient) = true)
    {f_area_powers : Addr} {od_area_powers an_area_powers : Option Addr} {sl_area_powers : Array (Option Value)} {oc_area_powers kV_area_powers dc_area_powers pc_area_powers cd_area_powers ct_area_powers : Value}
    (a_area_powers : PySem.W.nsIn K mainGlobals "area_powers" = some (some (.ref f_area_powers))) (l_area_powers : K.lookup f_area_powers = some ⟨oc_area_powers, od_area_powers, .func (PySem.W.fnOf "area_powers" "area_powers" (defArgs s_area_powers) (defBody s_area_powers) (defScope s_area_powers) .none kV_area_powers dc_area_powers pc_area_powers an_area_powers cd_area_powers ct_area_powers), sl_area_powers⟩) (c_area_powers : PySem.W.codeIn K cd_area_powers "area_powers" = true) (k_area_powers : PySem.W.keepIn K (.ref f_area_powers) = true)
    {f_less_by : Addr} {od_less_by an_less_by : Option Addr} {sl_less_by : Array (Option Value)} {oc_less_by kV_less_by dc_less_by pc_less_by cd_less_by ct_less_by : Value}
    (a_less_by : PySem.W.nsIn K mainGlobals "less_by" = some (some (.ref f_less_by))) (l_less_by : K.lookup f_less_by = some ⟨oc_less_by, od_less_by, .func (PySem.W.fnOf "less_by" "less_by" (defArgs s_less_by) (defBody s_less_by) (defScope s_less_by) .none kV_less_by dc_less_by pc_less_by an_less_by cd_less_by ct_less_by), sl_less_by⟩) (c_less_by : PySem.W.codeIn K cd_less_by "less_by" = true) (k_less_by : PySem.W.keepIn K (.ref f_less_by) = true)
    {f_multiplied : Addr} {od_multiplied an_multiplied : Option Addr} {sl_multiplied : Array (Option Value)} {oc_multiplied kV_multiplied dc_multiplied pc_multiplied cd_multiplied ct_multiplied : Value}
    (a_multiplied : PySem.W.nsIn K mainGlobals "multiplied" = some (some (.ref f_multiplied))) (l_multiplied : K.lookup f_multiplied = some ⟨oc_multiplied, od_multiplied, .func (PySem.W.fnOf "multiplied" "multiplied" (defArgs s_multiplied) (defBody s_multiplied) (defScope s_multiplied) .none kV_multiplied dc_multiplied pc_multiplied an_multiplied cd_multiplied ct_multiplied), sl_multiplied⟩) (c_multiplied : PySem.W.codeIn K cd_multiplied "multiplied" = true) (k_multiplied : PySem.W.keepIn K (.ref f_multiplied) = true)
    {f_value_at_rules : Addr} {od_value_at_rules an_value_at_rules : Option Addr} {sl_value_at_rules : Array (Option Value)} {oc_value_at_rules kV_value_at_rules dc_value_at_rules pc_value_at_rules cd_value_at_rules ct_value_at_rules : Value}
    (a_value_at_rules : PySem.W.nsIn K mainGlobals "value_at_rules" = some (some (.ref f_value_at_rules))) (l_value_at_rules : K.lookup f_value_at_rules = some ⟨oc_value_at_rules, od_value_at_rules, .func (PySem.W.fnOf "value_at" "value_at" (defArgs s_value_at_rules) (defBody s_value_at_rules) (defScope s_value_at_rules) .none kV_value_at_rules dc_value_at_rules pc_value_at_rules an_value_at_rules cd_value_at_rules ct_value_at_rules), sl_value_at_rules⟩) (c_value_at_rules : PySem.W.codeIn K cd_value_at_rules "value_at" = true) (k_value_at_rules : PySem.W.keepIn K (.ref f_value_at_rules) = true)
    {f_told : Addr} {od_told an_told : Option Addr} {sl_told : Array (Option Value)} {oc_told kV_told dc_told pc_told cd_told ct_told : Value}
    (a_told : PySem.W.nsIn K mainGlobals "told" = some (some (.ref f_told))) (l_told : K.lookup f_told = some ⟨oc_told, od_told, .func (PySem.W.fnOf "told" "told" (defArgs s_told) (defBody s_told) (defScope s_told) .none kV_told dc_told pc_told an_told cd_told ct_told), sl_told⟩) (c_told : PySem.W.codeIn K cd_told "told" = true) (k_told : PySem.W.keepIn K (.ref f_told) = true)
    {f_degree : Addr} {od_degree an_degree : Option Addr} {sl_degree : Array (Option Value)} {oc_degree kV_degree dc_degree pc_degree cd_degree ct_degree : Value}
    (a_degree : PySem.W.nsIn K mainGlobals "degree" = some (some (.ref f_degree))) (l_degree : K.lookup f_degree = some ⟨oc_degree, od_degree, .func (PySem.W.fnOf "degree" "degree" (defArgs s_degree) (defBody s_degree) (defScope s_degree) .none kV_degree dc_degree pc_degree an_degree cd_degree ct_degree), sl_degree⟩) (c_degree : PySem.W.codeIn K cd_degree "degree" = true) (k_degree : PySem.W.keepIn K (.ref f_degree) = true)
    {f_is_exact_enough : Addr} {od_is_exact_enough an_is_exact_enough : Option Addr} {sl_is_exact_enough : Array (Option Value)} {oc_is_exact_enough kV_is_exact_enough dc_is_exact_enough pc_is_exact_enough cd_is_exact_enough ct_is_exact_enough : Value}
    (a_is_exact_enough : PySem.W.nsIn K mainGlobals "is_exact_enough" = some (some (.ref f_is_exact_enough))) (l_is_exact_enough : K.lookup f_is_exact_enough = some ⟨oc_is_exact_enough, od_is_exact_enough, .func (PySem.W.fnOf "is_exact_enough" "is_exact_enough" (defArgs s_is_exact_enough) (defBody s_is_exact_enough) (defScope s_is_exact_enough) .none kV_is_exact_enough dc_is_exact_enough pc_is_exact_enough an_is_exact_enough cd_is_exact_enough ct_is_exact_enough), sl_is_exact_enough⟩) (c_is_exact_enough : PySem.W.codeIn K cd_is_exact_enough "is_exact_enough" = true) (k_is_exact_enough : PySem.W.keepIn K (.ref f_is_exact_enough) = true)
    {f_plus : Addr} {od_plus an_plus : Option Addr} {sl_plus : Array (Option Value)} {oc_plus kV_plus dc_plus pc_plus cd_plus ct_plus : Value}
    {dT_plus : Addr} {oT_plus : Obj} {gi_plus : List Value} {gn_plus : Nat} (t_plus : K.lookup dT_plus = some oT_plus) (td_plus : oT_plus.data = .seq gi_plus.toArray gn_plus) (v_plus : ∃ vs, Vals vs gi_plus ∧ ∀ H, DRs K H vs [.int (1)])
    (a_plus : PySem.W.nsIn K mainGlobals "plus" = some (some (.ref f_plus))) (l_plus : K.lookup f_plus = some ⟨oc_plus, od_plus, .func (PySem.W.fnOf "plus" "plus" (defArgs s_plus) (defBody s_plus) (defScope s_plus) (.ref dT_plus) kV_plus dc_plus pc_plus an_plus cd_plus ct_plus), sl_plus⟩) (c_plus : PySem.W.codeIn K cd_plus "plus" = true) (k_plus : PySem.W.keepIn K (.ref f_plus) = true)
    {f_primitive : Addr} {od_primitive an_primitive : Option Addr} {sl_primitive : Array (Option Value)} {oc_primitive kV_primitive dc_primitive pc_primitive cd_primitive ct_primitive : Value}
    (a_primitive : PySem.W.nsIn K mainGlobals "primitive" = some (some (.ref f_primitive))) (l_primitive : K.lookup f_primitive = some ⟨oc_primitive, od_primitive, .func (PySem.W.fnOf "primitive" "primitive" (defArgs s_primitive) (defBody s_primitive) (defScope s_primitive) .none kV_primitive dc_primitive pc_primitive an_primitive cd_primitive ct_primitive), sl_primitive⟩) (c_primitive : PySem.W.codeIn K cd_primitive "primitive" = true) (k_primitive : PySem.W.keepIn K (.ref f_primitive) = true)
    {f_product : Addr} {od_product an_product : Option Addr} {sl_product : Array (Option Value)} {oc_product kV_product dc_product pc_product cd_product ct_product : Value}
    (a_product : PySem.W.nsIn K mainGlobals "product" = some (some (.ref f_product))) (l_product : K.lookup f_product = some ⟨oc_product, od_product, .func (PySem.W.fnOf "product" "product" (defArgs s_product) (defBody s_product) (defScope s_product) .none kV_product dc_product pc_product an_product cd_product ct_product), sl_product⟩) (c_product : PySem.W.codeIn K cd_product "product" = true) (k_product : PySem.W.keepIn K (.ref f_product) = true)
    {f_sign_of : Addr} {od_sign_of an_sign_of : Option Addr} {sl_sign_of : Array (Option Value)} {oc_sign_of kV_sign_of dc_sign_of pc_sign_of cd_sign_of ct_sign_of : Value}
    (a_sign_of : PySem.W.nsIn K mainGlobals "sign_of" = some (some (.ref f_sign_of))) (l_sign_of : K.lookup f_sign_of = some ⟨oc_sign_of, od_sign_of, .func (PySem.W.fnOf "sign_of" "sign_of" (defArgs s_sign_of) (defBody s_sign_of) (defScope s_sign_of) .none kV_sign_of dc_sign_of pc_sign_of an_sign_of cd_sign_of ct_sign_of), sl_sign_of⟩) (c_sign_of : PySem.W.codeIn K cd_sign_of "sign_of" = true) (k_sign_of : PySem.W.keepIn K (.ref f_sign_of) = true)
    {f_parted : Addr} {od_parted an_parted : Option Addr} {sl_parted : Array (Option Value)} {oc_parted kV_parted dc_parted pc_parted cd_parted ct_parted : Value}
    (a_parted : PySem.W.nsIn K mainGlobals "parted" = some (some (.ref f_parted))) (l_parted : K.lookup f_parted = some ⟨oc_parted, od_parted, .func (PySem.W.fnOf "parted" "parted" (defArgs s_parted) (defBody s_parted) (defScope s_parted) .none kV_parted dc_parted pc_parted an_parted cd_parted ct_parted), sl_parted⟩) (c_parted : PySem.W.codeIn K cd_parted "parted" = true) (k_parted : PySem.W.keepIn K (.ref f_parted) = true)
    {f_rest : Addr} {od_rest an_rest : Option Addr} {sl_rest : Array (Option Value)} {oc_rest kV_rest dc_rest pc_rest cd_rest ct_rest : Value}
    (a_rest : PySem.W.nsIn K mainGlobals "rest" = some (some (.ref f_rest))) (l_rest : K.lookup f_rest = some ⟨oc_rest, od_rest, .func (PySem.W.fnOf "rest" "rest" (defArgs s_rest) (defBody s_rest) (defScope s_rest) .none kV_rest dc_rest pc_rest an_rest cd_rest ct_rest), sl_rest⟩) (c_rest : PySem.W.codeIn K cd_rest "rest" = true) (k_rest : PySem.W.keepIn K (.ref f_rest) = true)
    {f_upright : Addr} {od_upright an_upright : Option Addr} {sl_upright : Array (Option Value)} {oc_upright kV_upright dc_upright pc_upright cd_upright ct_upright : Value}
    (a_upright : PySem.W.nsIn K mainGlobals "upright" = some (some (.ref f_upright))) (l_upright : K.lookup f_upright = some ⟨oc_upright, od_upright, .func (PySem.W.fnOf "upright" "upright" (defArgs s_upright) (defBody s_upright) (defScope s_upright) .none kV_upright dc_upright pc_upright an_upright cd_upright ct_upright), sl_upright⟩) (c_upright : PySem.W.codeIn K cd_upright "upright" = true) (k_upright : PySem.W.keepIn K (.ref f_upright) = true)
    {f_common : Addr} {od_common an_common : Option Addr} {sl_common : Array (Option Value)} {oc_common kV_common dc_common pc_common cd_common ct_common : Value}
    (a_common : PySem.W.nsIn K mainGlobals "common" = some (some (.ref f_common))) (l_common : K.lookup f_common = some ⟨oc_common, od_common, .func (PySem.W.fnOf "common" "common" (defArgs s_common) (defBody s_common) (defScope s_common) .none kV_common dc_common pc_common an_common cd_common ct_common), sl_common⟩) (c_common : PySem.W.codeIn K cd_common "common" = true) (k_common : PySem.W.keepIn K (.ref f_common) = true)
    {f_derived : Addr} {od_derived an_derived : Option Addr} {sl_derived : Array (Option Value)} {oc_derived kV_derived dc_derived pc_derived cd_derived ct_derived : Value}
    (a_derived : PySem.W.nsIn K mainGlobals "derived" = some (some (.ref f_derived))) (l_derived : K.lookup f_derived = some ⟨oc_derived, od_derived, .func (PySem.W.fnOf "derived" "derived" (defArgs s_derived) (defBody s_derived) (defScope s_derived) .none kV_derived dc_derived pc_derived an_derived cd_derived ct_derived), sl_derived⟩) (c_derived : PySem.W.codeIn K cd_derived "derived" = true) (k_derived : PySem.W.keepIn K (.ref f_derived) = true)
    {f_divided : Addr} {od_divided an_divided : Option Addr} {sl_divided : Array (Option Value)} {oc_divided kV_divided dc_divided pc_divided cd_divided ct_divided : Value}
    (a_divided : PySem.W.nsIn K mainGlobals "divided" = some (some (.ref f_divided))) (l_divided : K.lookup f_divided = some ⟨oc_divided, od_divided, .func (PySem.W.fnOf "divided" "divided" (defArgs s_divided) (defBody s_divided) (defScope s_divided) .none kV_divided dc_divided pc_divided an_divided cd_divided ct_divided), sl_divided⟩) (c_divided : PySem.W.codeIn K cd_divided "divided" = true) (k_divided : PySem.W.keepIn K (.ref f_divided) = true)
    {f_parts_of : Addr} {od_parts_of an_parts_of : Option Addr} {sl_parts_of : Array (Option Value)} {oc_parts_of kV_parts_of dc_parts_of pc_parts_of cd_parts_of ct_parts_of : Value}
    (a_parts_of : PySem.W.nsIn K mainGlobals "parts_of" = some (some (.ref f_parts_of))) (l_parts_of : K.lookup f_parts_of = some ⟨oc_parts_of, od_parts_of, .func (PySem.W.fnOf "parts_of" "parts_of" (defArgs s_parts_of) (defBody s_parts_of) (defScope s_parts_of) .none kV_parts_of dc_parts_of pc_parts_of an_parts_of cd_parts_of ct_parts_of), sl_parts_of⟩) (c_parts_of : PySem.W.codeIn K cd_parts_of "parts_of" = true) (k_parts_of : PySem.W.keepIn K (.ref f_parts_of) = true)
    {f_chain_of : Addr} {od_chain_of an_chain_of : Option Addr} {sl_chain_of : Array (Option Value)} {oc_chain_of kV_chain_of dc_chain_of pc_chain_of cd_chain_of ct_chain_of : Value}
    (a_chain_of : PySem.W.nsIn K mainGlobals "chain_of" = some (some (.ref f_chain_of))) (l_chain_of : K.lookup f_chain_of = some ⟨oc_chain_of, od_chain_of, .func (PySem.W.fnOf "chain_of" "chain_of" (defArgs s_chain_of) (defBody s_chain_of) (defScope s_chain_of) .none kV_chain_of dc_chain_of pc_chain_of an_chain_of cd_chain_of ct_chain_of), sl_chain_of⟩) (c_chain_of : PySem.W.codeIn K cd_chain_of "chain_of" = true) (k_chain_of : PySem.W.keepIn K (.ref f_chain_of) = true)
    {f_sign_changes : Addr} {od_sign_changes an_sign_changes : Option Addr} {sl_sign_changes : Array (Option Value)} {oc_sign_changes kV_sign_changes dc_sign_changes pc_sign_changes cd_sign_changes ct_sign_changes : Value}
    (a_sign_changes : PySem.W.nsIn K mainGlobals "sign_changes" = some (some (.ref f_sign_changes))) (l_sign_changes : K.lookup f_sign_changes = some ⟨oc_sign_changes, od_sign_changes, .func (PySem.W.fnOf "sign_changes" "sign_changes" (defArgs s_sign_changes) (defBody s_sign_changes) (defScope s_sign_changes) .none kV_sign_changes dc_sign_changes pc_sign_changes an_sign_changes cd_sign_changes ct_sign_changes), sl_sign_changes⟩) (c_sign_changes : PySem.W.codeIn K cd_sign_changes "sign_changes" = true) (k_sign_changes : PySem.W.keepIn K (.ref f_sign_changes) = true)
    {f_value_at_polys : Addr} {od_value_at_polys an_value_at_polys : Option Addr} {sl_value_at_polys : Array (Option Value)} {oc_value_at_polys kV_value_at_polys dc_value_at_polys pc_value_at_polys cd_value_at_polys ct_value_at_polys : Value}
    (a_value_at_polys : PySem.W.nsIn K mainGlobals "value_at_polys" = some (some (.ref f_value_at_polys))) (l_value_at_polys : K.lookup f_value_at_polys = some ⟨oc_value_at_polys, od_value_at_polys, .func (PySem.W.fnOf "value_at" "value_at" (defArgs s_value_at_polys) (defBody s_value_at_polys) (defScope s_value_at_polys) .none kV_value_at_polys dc_value_at_polys pc_value_at_polys an_value_at_polys cd_value_at_polys ct_value_at_polys), sl_value_at_polys⟩) (c_value_at_polys : PySem.W.codeIn K cd_value_at_polys "value_at" = true) (k_value_at_polys : PySem.W.keepIn K (.ref f_value_at_polys) = true)
    {f_changes_at : Addr} {od_changes_at an_changes_at : Option Addr} {sl_changes_at : Array (Option Value)} {oc_changes_at kV_changes_at dc_changes_at pc_changes_at cd_changes_at ct_changes_at : Value}
    (a_changes_at : PySem.W.nsIn K mainGlobals "changes_at" = some (some (.ref f_changes_at))) (l_changes_at : K.lookup f_changes_at = some ⟨oc_changes_at, od_changes_at, .func (PySem.W.fnOf "changes_at" "changes_at" (defArgs s_changes_at) (defBody s_changes_at) (defScope s_changes_at) .none kV_changes_at dc_changes_at pc_changes_at an_changes_at cd_changes_at ct_changes_at), sl_changes_at⟩) (c_changes_at : PySem.W.codeIn K cd_changes_at "changes_at" = true) (k_changes_at : PySem.W.keepIn K (.ref f_changes_at) = true)
    {f_once_each : Addr} {od_once_each an_once_each : Option Addr} {sl_once_each : Array (Option Value)} {oc_once_each kV_once_each dc_once_each pc_once_each cd_once_each ct_once_each : Value}
    (a_once_each : PySem.W.nsIn K mainGlobals "once_each" = some (some (.ref f_once_each))) (l_once_each : K.lookup f_once_each = some ⟨oc_once_each, od_once_each, .func (PySem.W.fnOf "once_each" "once_each" (defArgs s_once_each) (defBody s_once_each) (defScope s_once_each) .none kV_once_each dc_once_each pc_once_each an_once_each cd_once_each ct_once_each), sl_once_each⟩) (c_once_each : PySem.W.codeIn K cd_once_each "once_each" = true) (k_once_each : PySem.W.keepIn K (.ref f_once_each) = true)
    {f_roots_between : Addr} {od_roots_between an_roots_between : Option Addr} {sl_roots_between : Array (Option Value)} {oc_roots_between kV_roots_between dc_roots_between pc_roots_between cd_roots_between ct_roots_between : Value}
    (a_roots_between : PySem.W.nsIn K mainGlobals "roots_between" = some (some (.ref f_roots_between))) (l_roots_between : K.lookup f_roots_between = some ⟨oc_roots_between, od_roots_between, .func (PySem.W.fnOf "roots_between" "roots_between" (defArgs s_roots_between) (defBody s_roots_between) (defScope s_roots_between) .none kV_roots_between dc_roots_between pc_roots_between an_roots_between cd_roots_between ct_roots_between), sl_roots_between⟩) (c_roots_between : PySem.W.codeIn K cd_roots_between "roots_between" = true) (k_roots_between : PySem.W.keepIn K (.ref f_roots_between) = true)
    {f_without_ends : Addr} {od_without_ends an_without_ends : Option Addr} {sl_without_ends : Array (Option Value)} {oc_without_ends kV_without_ends dc_without_ends pc_without_ends cd_without_ends ct_without_ends : Value}
    (a_without_ends : PySem.W.nsIn K mainGlobals "without_ends" = some (some (.ref f_without_ends))) (l_without_ends : K.lookup f_without_ends = some ⟨oc_without_ends, od_without_ends, .func (PySem.W.fnOf "without_ends" "without_ends" (defArgs s_without_ends) (defBody s_without_ends) (defScope s_without_ends) .none kV_without_ends dc_without_ends pc_without_ends an_without_ends cd_without_ends ct_without_ends), sl_without_ends⟩) (c_without_ends : PySem.W.codeIn K cd_without_ends "without_ends" = true) (k_without_ends : PySem.W.keepIn K (.ref f_without_ends) = true)
    {f_is_nowhere_below : Addr} {od_is_nowhere_below an_is_nowhere_below : Option Addr} {sl_is_nowhere_below : Array (Option Value)} {oc_is_nowhere_below kV_is_nowhere_below dc_is_nowhere_below pc_is_nowhere_below cd_is_nowhere_below ct_is_nowhere_below : Value}
    (a_is_nowhere_below : PySem.W.nsIn K mainGlobals "is_nowhere_below" = some (some (.ref f_is_nowhere_below))) (l_is_nowhere_below : K.lookup f_is_nowhere_below = some ⟨oc_is_nowhere_below, od_is_nowhere_below, .func (PySem.W.fnOf "is_nowhere_below" "is_nowhere_below" (defArgs s_is_nowhere_below) (defBody s_is_nowhere_below) (defScope s_is_nowhere_below) .none kV_is_nowhere_below dc_is_nowhere_below pc_is_nowhere_below an_is_nowhere_below cd_is_nowhere_below ct_is_nowhere_below), sl_is_nowhere_below⟩) (c_is_nowhere_below : PySem.W.codeIn K cd_is_nowhere_below "is_nowhere_below" = true) (k_is_nowhere_below : PySem.W.keepIn K (.ref f_is_nowhere_below) = true)
    {f_knots_of : Addr} {od_knots_of an_knots_of : Option Addr} {sl_knots_of : Array (Option Value)} {oc_knots_of kV_knots_of dc_knots_of pc_knots_of cd_knots_of ct_knots_of : Value}
    (a_knots_of : PySem.W.nsIn K mainGlobals "knots_of" = some (some (.ref f_knots_of))) (l_knots_of : K.lookup f_knots_of = some ⟨oc_knots_of, od_knots_of, .func (PySem.W.fnOf "knots_of" "knots_of" (defArgs s_knots_of) (defBody s_knots_of) (defScope s_knots_of) .none kV_knots_of dc_knots_of pc_knots_of an_knots_of cd_knots_of ct_knots_of), sl_knots_of⟩) (c_knots_of : PySem.W.codeIn K cd_knots_of "knots_of" = true) (k_knots_of : PySem.W.keepIn K (.ref f_knots_of) = true)
    {f_powered : Addr} {od_powered an_powered : Option Addr} {sl_powered : Array (Option Value)} {oc_powered kV_powered dc_powered pc_powered cd_powered ct_powered : Value}
    (a_powered : PySem.W.nsIn K mainGlobals "powered" = some (some (.ref f_powered))) (l_powered : K.lookup f_powered = some ⟨oc_powered, od_powered, .func (PySem.W.fnOf "powered" "powered" (defArgs s_powered) (defBody s_powered) (defScope s_powered) .none kV_powered dc_powered pc_powered an_powered cd_powered ct_powered), sl_powered⟩) (c_powered : PySem.W.codeIn K cd_powered "powered" = true) (k_powered : PySem.W.keepIn K (.ref f_powered) = true)
    {f_ways : Addr} {od_ways an_ways : Option Addr} {sl_ways : Array (Option Value)} {oc_ways kV_ways dc_ways pc_ways cd_ways ct_ways : Value}
    (a_ways : PySem.W.nsIn K mainGlobals "ways" = some (some (.ref f_ways))) (l_ways : K.lookup f_ways = some ⟨oc_ways, od_ways, .func (PySem.W.fnOf "ways" "ways" (defArgs s_ways) (defBody s_ways) (defScope s_ways) .none kV_ways dc_ways pc_ways an_ways cd_ways ct_ways), sl_ways⟩) (c_ways : PySem.W.codeIn K cd_ways "ways" = true) (k_ways : PySem.W.keepIn K (.ref f_ways) = true)
    {f_distance_power : Addr} {od_distance_power an_distance_power : Option Addr} {sl_distance_power : Array (Option Value)} {oc_distance_power kV_distance_power dc_distance_power pc_distance_power cd_distance_power ct_distance_power : Value}
    (a_distance_power : PySem.W.nsIn K mainGlobals "distance_power" = some (some (.ref f_distance_power))) (l_distance_power : K.lookup f_distance_power = some ⟨oc_distance_power, od_distance_power, .func (PySem.W.fnOf "distance_power" "distance_power" (defArgs s_distance_power) (defBody s_distance_power) (defScope s_distance_power) .none kV_distance_power dc_distance_power pc_distance_power an_distance_power cd_distance_power ct_distance_power), sl_distance_power⟩) (c_distance_power : PySem.W.codeIn K cd_distance_power "distance_power" = true) (k_distance_power : PySem.W.keepIn K (.ref f_distance_power) = true)
    {f_sum_of : Addr} {od_sum_of an_sum_of : Option Addr} {sl_sum_of : Array (Option Value)} {oc_sum_of kV_sum_of dc_sum_of pc_sum_of cd_sum_of ct_sum_of : Value}
    (a_sum_of : PySem.W.nsIn K mainGlobals "sum_of" = some (some (.ref f_sum_of))) (l_sum_of : K.lookup f_sum_of = some ⟨oc_sum_of, od_sum_of, .func (PySem.W.fnOf "sum_of" "sum_of" (defArgs s_sum_of) (defBody s_sum_of) (defScope s_sum_of) .none kV_sum_of dc_sum_of pc_sum_of an_sum_of cd_sum_of ct_sum_of), sl_sum_of⟩) (c_sum_of : PySem.W.codeIn K cd_sum_of "sum_of" = true) (k_sum_of : PySem.W.keepIn K (.ref f_sum_of) = true)
    {f_piece : Addr} {od_piece an_piece : Option Addr} {sl_piece : Array (Option Value)} {oc_piece kV_piece dc_piece pc_piece cd_piece ct_piece : Value}
    (a_piece : PySem.W.nsIn K mainGlobals "piece" = some (some (.ref f_piece))) (l_piece : K.lookup f_piece = some ⟨oc_piece, od_piece, .func (PySem.W.fnOf "piece" "piece" (defArgs s_piece) (defBody s_piece) (defScope s_piece) .none kV_piece dc_piece pc_piece an_piece cd_piece ct_piece), sl_piece⟩) (c_piece : PySem.W.codeIn K cd_piece "piece" = true) (k_piece : PySem.W.keepIn K (.ref f_piece) = true)
    {f_kernel : Addr} {od_kernel an_kernel : Option Addr} {sl_kernel : Array (Option Value)} {oc_kernel kV_kernel dc_kernel pc_kernel cd_kernel ct_kernel : Value}
    (a_kernel : PySem.W.nsIn K mainGlobals "kernel" = some (some (.ref f_kernel))) (l_kernel : K.lookup f_kernel = some ⟨oc_kernel, od_kernel, .func (PySem.W.fnOf "kernel" "kernel" (defArgs s_kernel) (defBody s_kernel) (defScope s_kernel) .none kV_kernel dc_kernel pc_kernel an_kernel cd_kernel ct_kernel), sl_kernel⟩) (c_kernel : PySem.W.codeIn K cd_kernel "kernel" = true) (k_kernel : PySem.W.keepIn K (.ref f_kernel) = true)
    {f_never_below : Addr} {od_never_below an_never_below : Option Addr} {sl_never_below : Array (Option Value)} {oc_never_below kV_never_below dc_never_below pc_never_below cd_never_below ct_never_below : Value}
    (a_never_below : PySem.W.nsIn K mainGlobals "never_below" = some (some (.ref f_never_below))) (l_never_below : K.lookup f_never_below = some ⟨oc_never_below, od_never_below, .func (PySem.W.fnOf "never_below" "never_below" (defArgs s_never_below) (defBody s_never_below) (defScope s_never_below) .none kV_never_below dc_never_below pc_never_below an_never_below cd_never_below ct_never_below), sl_never_below⟩) (c_never_below : PySem.W.codeIn K cd_never_below "never_below" = true) (k_never_below : PySem.W.keepIn K (.ref f_never_below) = true)
    {f_compare : Addr} {od_compare an_compare : Option Addr} {sl_compare : Array (Option Value)} {oc_compare kV_compare dc_compare pc_compare cd_compare ct_compare : Value}
    (a_compare : PySem.W.nsIn K mainGlobals "compare" = some (some (.ref f_compare))) (l_compare : K.lookup f_compare = some ⟨oc_compare, od_compare, .func (PySem.W.fnOf "compare" "compare" (defArgs s_compare) (defBody s_compare) (defScope s_compare) .none kV_compare dc_compare pc_compare an_compare cd_compare ct_compare), sl_compare⟩) (c_compare : PySem.W.codeIn K cd_compare "compare" = true) (k_compare : PySem.W.keepIn K (.ref f_compare) = true)
    {f_need : Addr} {od_need an_need : Option Addr} {sl_need : Array (Option Value)} {oc_need kV_need dc_need pc_need cd_need ct_need : Value}
    (a_need : PySem.W.nsIn K mainGlobals "need" = some (some (.ref f_need))) (l_need : K.lookup f_need = some ⟨oc_need, od_need, .func (PySem.W.fnOf "need" "need" (defArgs s_need) (defBody s_need) (defScope s_need) .none kV_need dc_need pc_need an_need cd_need ct_need), sl_need⟩) (c_need : PySem.W.codeIn K cd_need "need" = true) (k_need : PySem.W.keepIn K (.ref f_need) = true)
    {f_Desk_answer : Addr} {od_Desk_answer an_Desk_answer : Option Addr} {sl_Desk_answer : Array (Option Value)} {oc_Desk_answer kV_Desk_answer dc_Desk_answer pc_Desk_answer cd_Desk_answer ct_Desk_answer : Value}
    (a_Desk_answer : PySem.W.findIn K (.ref C_Desk) "answer" = some (some (.ref f_Desk_answer))) (l_Desk_answer : K.lookup f_Desk_answer = some ⟨oc_Desk_answer, od_Desk_answer, .func (PySem.W.fnOf "answer" "Desk.answer" (defArgs s_Desk_answer) (defBody s_Desk_answer) (defScope s_Desk_answer) .none kV_Desk_answer dc_Desk_answer pc_Desk_answer an_Desk_answer cd_Desk_answer ct_Desk_answer), sl_Desk_answer⟩) (c_Desk_answer : PySem.W.codeIn K cd_Desk_answer "Desk.answer" = true) (k_Desk_answer : PySem.W.keepIn K (.ref f_Desk_answer) = true)
    (i_Desk_answer : PySem.W.isFn K (.ref f_Desk_answer) = true)
    {f_shown_text : Addr} {od_shown_text an_shown_text : Option Addr} {sl_shown_text : Array (Option Value)} {oc_shown_text kV_shown_text dc_shown_text pc_shown_text cd_shown_text ct_shown_text : Value}
    (a_shown_text : PySem.W.nsIn K mainGlobals "shown_text" = some (some (.ref f_shown_text))) (l_shown_text : K.lookup f_shown_text = some ⟨oc_shown_text, od_shown_text, .func (PySem.W.fnOf "shown_text" "shown_text" (defArgs s_shown_text) (defBody s_shown_text) (defScope s_shown_text) .none kV_shown_text dc_shown_text pc_shown_text an_shown_text cd_shown_text ct_shown_text), sl_shown_text⟩) (c_shown_text : PySem.W.codeIn K cd_shown_text "shown_text" = true) (k_shown_text : PySem.W.keepIn K (.ref f_shown_text) = true)
    {f_Desk_keep : Addr} {od_Desk_keep an_Desk_keep : Option Addr} {sl_Desk_keep : Array (Option Value)} {oc_Desk_keep kV_Desk_keep dc_Desk_keep pc_Desk_keep cd_Desk_keep ct_Desk_keep : Value}
    (a_Desk_keep : PySem.W.findIn K (.ref C_Desk) "keep" = some (some (.ref f_Desk_keep))) (l_Desk_keep : K.lookup f_Desk_keep = some ⟨oc_Desk_keep, od_Desk_keep, .func (PySem.W.fnOf "keep" "Desk.keep" (defArgs s_Desk_keep) (defBody s_Desk_keep) (defScope s_Desk_keep) .none kV_Desk_keep dc_Desk_keep pc_Desk_keep an_Desk_keep cd_Desk_keep ct_Desk_keep), sl_Desk_keep⟩) (c_Desk_keep : PySem.W.codeIn K cd_Desk_keep "Desk.keep" = true) (k_Desk_keep : PySem.W.keepIn K (.ref f_Desk_keep) = true)
    (i_Desk_keep : PySem.W.isFn K (.ref f_Desk_keep) = true)
    {f_number_in : Addr} {od_number_in an_number_in : Option Addr} {sl_number_in : Array (Option Value)} {oc_number_in kV_number_in dc_number_in pc_number_in cd_number_in ct_number_in : Value}
    (a_number_in : PySem.W.nsIn K mainGlobals "number_in" = some (some (.ref f_number_in))) (l_number_in : K.lookup f_number_in = some ⟨oc_number_in, od_number_in, .func (PySem.W.fnOf "number_in" "number_in" (defArgs s_number_in) (defBody s_number_in) (defScope s_number_in) .none kV_number_in dc_number_in pc_number_in an_number_in cd_number_in ct_number_in), sl_number_in⟩) (c_number_in : PySem.W.codeIn K cd_number_in "number_in" = true) (k_number_in : PySem.W.keepIn K (.ref f_number_in) = true)
    {f_value_in : Addr} {od_value_in an_value_in : Option Addr} {sl_value_in : Array (Option Value)} {oc_value_in kV_value_in dc_value_in pc_value_in cd_value_in ct_value_in : Value}
    (a_value_in : PySem.W.nsIn K mainGlobals "value_in" = some (some (.ref f_value_in))) (l_value_in : K.lookup f_value_in = some ⟨oc_value_in, od_value_in, .func (PySem.W.fnOf "value_in" "value_in" (defArgs s_value_in) (defBody s_value_in) (defScope s_value_in) .none kV_value_in dc_value_in pc_value_in an_value_in cd_value_in ct_value_in), sl_value_in⟩) (c_value_in : PySem.W.codeIn K cd_value_in "value_in" = true) (k_value_in : PySem.W.keepIn K (.ref f_value_in) = true)
    {f_words_in : Addr} {od_words_in an_words_in : Option Addr} {sl_words_in : Array (Option Value)} {oc_words_in kV_words_in dc_words_in pc_words_in cd_words_in ct_words_in : Value}
    (a_words_in : PySem.W.nsIn K mainGlobals "words_in" = some (some (.ref f_words_in))) (l_words_in : K.lookup f_words_in = some ⟨oc_words_in, od_words_in, .func (PySem.W.fnOf "words_in" "words_in" (defArgs s_words_in) (defBody s_words_in) (defScope s_words_in) .none kV_words_in dc_words_in pc_words_in an_words_in cd_words_in ct_words_in), sl_words_in⟩) (c_words_in : PySem.W.codeIn K cd_words_in "words_in" = true) (k_words_in : PySem.W.keepIn K (.ref f_words_in) = true)
    {f_Rule_read p_Rule_read : Addr} {rs_Rule_read : List Value} {od_Rule_read an_Rule_read : Option Addr} {sl_Rule_read : Array (Option Value)} {oc_Rule_read kV_Rule_read dc_Rule_read pc_Rule_read cd_Rule_read ct_Rule_read : Value}
    (a_Rule_read : PySem.W.findCls K (.ref C_Rule) (.type "type") "read" = some (.get (.builtin "classmethod.__get__") (.ref p_Rule_read) .none (.ref C_Rule))) (r_Rule_read : PySem.W.recIn K p_Rule_read "classmethod" = some (.ref f_Rule_read :: rs_Rule_read)) (i_Rule_read : PySem.W.fnIn K f_Rule_read = true) (rd_Rule_read : PySem.W.readsIn K C_Rule (.type "type") = true) (ga_Rule_read : PySem.W.specialIn K (.ref C_Rule) "__getattribute__" = some (some (.builtin "type.__getattribute__"))) (l_Rule_read : K.lookup f_Rule_read = some ⟨oc_Rule_read, od_Rule_read, .func (PySem.W.fnOf "read" "Rule.read" (defArgs s_Rule_read) (defBody s_Rule_read) (defScope s_Rule_read) .none kV_Rule_read dc_Rule_read pc_Rule_read an_Rule_read cd_Rule_read ct_Rule_read), sl_Rule_read⟩) (c_Rule_read : PySem.W.codeIn K cd_Rule_read "Rule.read" = true) (k_Rule_read : PySem.W.keepIn K (.ref f_Rule_read) = true)
    {f_is_name : Addr} {od_is_name an_is_name : Option Addr} {sl_is_name : Array (Option Value)} {oc_is_name kV_is_name dc_is_name pc_is_name cd_is_name ct_is_name : Value}
    (a_is_name : PySem.W.nsIn K mainGlobals "is_name" = some (some (.ref f_is_name))) (l_is_name : K.lookup f_is_name = some ⟨oc_is_name, od_is_name, .func (PySem.W.fnOf "is_name" "is_name" (defArgs s_is_name) (defBody s_is_name) (defScope s_is_name) .none kV_is_name dc_is_name pc_is_name an_is_name cd_is_name ct_is_name), sl_is_name⟩) (c_is_name : PySem.W.codeIn K cd_is_name "is_name" = true) (k_is_name : PySem.W.keepIn K (.ref f_is_name) = true)
    {f_Desk_say : Addr} {od_Desk_say an_Desk_say : Option Addr} {sl_Desk_say : Array (Option Value)} {oc_Desk_say kV_Desk_say dc_Desk_say pc_Desk_say cd_Desk_say ct_Desk_say : Value}
    (a_Desk_say : PySem.W.findIn K (.ref C_Desk) "say" = some (some (.ref f_Desk_say))) (l_Desk_say : K.lookup f_Desk_say = some ⟨oc_Desk_say, od_Desk_say, .func (PySem.W.fnOf "say" "Desk.say" (defArgs s_Desk_say) (defBody s_Desk_say) (defScope s_Desk_say) .none kV_Desk_say dc_Desk_say pc_Desk_say an_Desk_say cd_Desk_say ct_Desk_say), sl_Desk_say⟩) (c_Desk_say : PySem.W.codeIn K cd_Desk_say "Desk.say" = true) (k_Desk_say : PySem.W.keepIn K (.ref f_Desk_say) = true)
    (i_Desk_say : PySem.W.isFn K (.ref f_Desk_say) = true)
    {f_Live_init : Addr} {od_Live_init an_Live_init : Option Addr} {sl_Live_init : Array (Option Value)} {oc_Live_init kV_Live_init dc_Live_init pc_Live_init cd_Live_init ct_Live_init : Value}
    (a_Live_init : PySem.W.findIn K (.ref C_Live) "__init__" = some (some (.ref f_Live_init))) (l_Live_init : K.lookup f_Live_init = some ⟨oc_Live_init, od_Live_init, .func (PySem.W.fnOf "__init__" "Live.__init__" (defArgs s_Live_init) (defBody s_Live_init) (defScope s_Live_init) .none kV_Live_init dc_Live_init pc_Live_init an_Live_init cd_Live_init ct_Live_init), sl_Live_init⟩) (c_Live_init : PySem.W.codeIn K cd_Live_init "Live.__init__" = true) (k_Live_init : PySem.W.keepIn K (.ref f_Live_init) = true)
    (i_Live_init : PySem.W.isFn K (.ref f_Live_init) = true)
    (mk_Live : PySem.W.makesIn K C_Live = true) (kc_Live : PySem.W.keepIn K (.ref C_Live) = true)
    {f_Live_len : Addr} {od_Live_len an_Live_len : Option Addr} {sl_Live_len : Array (Option Value)} {oc_Live_len kV_Live_len dc_Live_len pc_Live_len cd_Live_len ct_Live_len : Value}
    (a_Live_len : PySem.W.findIn K (.ref C_Live) "__len__" = some (some (.ref f_Live_len))) (l_Live_len : K.lookup f_Live_len = some ⟨oc_Live_len, od_Live_len, .func (PySem.W.fnOf "__len__" "Live.__len__" (defArgs s_Live_len) (defBody s_Live_len) (defScope s_Live_len) .none kV_Live_len dc_Live_len pc_Live_len an_Live_len cd_Live_len ct_Live_len), sl_Live_len⟩) (c_Live_len : PySem.W.codeIn K cd_Live_len "Live.__len__" = true) (k_Live_len : PySem.W.keepIn K (.ref f_Live_len) = true)
    (i_Live_len : PySem.W.isFn K (.ref f_Live_len) = true)
    {f_Live_shown p_Live_shown : Addr} {rs_Live_shown : List Value} {od_Live_shown an_Live_shown : Option Addr} {sl_Live_shown : Array (Option Value)} {oc_Live_shown kV_Live_shown dc_Live_shown pc_Live_shown cd_Live_shown ct_Live_shown : Value}
    (a_Live_shown : PySem.W.findIn K (.ref C_Live) "shown" = some (some (.ref p_Live_shown))) (r_Live_shown : PySem.W.recIn K p_Live_shown "property" = some (.ref f_Live_shown :: rs_Live_shown)) (pg_Live_shown : PySem.W.specialIn K (.ref p_Live_shown) "__get__" = some (some (.builtin "property.__get__"))) (pt_Live_shown : PySem.W.takesIn K (.ref p_Live_shown) = some true)
    (l_Live_shown : K.lookup f_Live_shown = some ⟨oc_Live_shown, od_Live_shown, .func (PySem.W.fnOf "shown" "Live.shown" (defArgs s_Live_shown) (defBody s_Live_shown) (defScope s_Live_shown) .none kV_Live_shown dc_Live_shown pc_Live_shown an_Live_shown cd_Live_shown ct_Live_shown), sl_Live_shown⟩) (c_Live_shown : PySem.W.codeIn K cd_Live_shown "Live.shown" = true) (k_Live_shown : PySem.W.keepIn K (.ref f_Live_shown) = true)
    {f_Live_grow : Addr} {od_Live_grow an_Live_grow : Option Addr} {sl_Live_grow : Array (Option Value)} {oc_Live_grow kV_Live_grow dc_Live_grow pc_Live_grow cd_Live_grow ct_Live_grow : Value}
    (a_Live_grow : PySem.W.findIn K (.ref C_Live) "grow" = some (some (.ref f_Live_grow))) (l_Live_grow : K.lookup f_Live_grow = some ⟨oc_Live_grow, od_Live_grow, .func (PySem.W.fnOf "grow" "Live.grow" (defArgs s_Live_grow) (defBody s_Live_grow) (defScope s_Live_grow) .none kV_Live_grow dc_Live_grow pc_Live_grow an_Live_grow cd_Live_grow ct_Live_grow), sl_Live_grow⟩) (c_Live_grow : PySem.W.codeIn K cd_Live_grow "Live.grow" = true) (k_Live_grow : PySem.W.keepIn K (.ref f_Live_grow) = true)
    (i_Live_grow : PySem.W.isFn K (.ref f_Live_grow) = true)
    {f_Live_cover : Addr} {od_Live_cover an_Live_cover : Option Addr} {sl_Live_cover : Array (Option Value)} {oc_Live_cover kV_Live_cover dc_Live_cover pc_Live_cover cd_Live_cover ct_Live_cover : Value}
    (a_Live_cover : PySem.W.findIn K (.ref C_Live) "cover" = some (some (.ref f_Live_cover))) (l_Live_cover : K.lookup f_Live_cover = some ⟨oc_Live_cover, od_Live_cover, .func (PySem.W.fnOf "cover" "Live.cover" (defArgs s_Live_cover) (defBody s_Live_cover) (defScope s_Live_cover) .none kV_Live_cover dc_Live_cover pc_Live_cover an_Live_cover cd_Live_cover ct_Live_cover), sl_Live_cover⟩) (c_Live_cover : PySem.W.codeIn K cd_Live_cover "Live.cover" = true) (k_Live_cover : PySem.W.keepIn K (.ref f_Live_cover) = true)
    (i_Live_cover : PySem.W.isFn K (.ref f_Live_cover) = true)
    {f_Live_is_for : Addr} {od_Live_is_for an_Live_is_for : Option Addr} {sl_Live_is_for : Array (Option Value)} {oc_Live_is_for kV_Live_is_for dc_Live_is_for pc_Live_is_for cd_Live_is_for ct_Live_is_for : Value}
    (a_Live_is_for : PySem.W.findIn K (.ref C_Live) "is_for" = some (some (.ref f_Live_is_for))) (l_Live_is_for : K.lookup f_Live_is_for = some ⟨oc_Live_is_for, od_Live_is_for, .func (PySem.W.fnOf "is_for" "Live.is_for" (defArgs s_Live_is_for) (defBody s_Live_is_for) (defScope s_Live_is_for) .none kV_Live_is_for dc_Live_is_for pc_Live_is_for an_Live_is_for cd_Live_is_for ct_Live_is_for), sl_Live_is_for⟩) (c_Live_is_for : PySem.W.codeIn K cd_Live_is_for "Live.is_for" = true) (k_Live_is_for : PySem.W.keepIn K (.ref f_Live_is_for) = true)
    (i_Live_is_for : PySem.W.isFn K (.ref f_Live_is_for) = true)
    {f_Live_put : Addr} {od_Live_put an_Live_put : Option Addr} {sl_Live_put : Array (Option Value)} {oc_Live_put kV_Live_put dc_Live_put pc_Live_put cd_Live_put ct_Live_put : Value}
    (a_Live_put : PySem.W.findIn K (.ref C_Live) "put" = some (some (.ref f_Live_put))) (l_Live_put : K.lookup f_Live_put = some ⟨oc_Live_put, od_Live_put, .func (PySem.W.fnOf "put" "Live.put" (defArgs s_Live_put) (defBody s_Live_put) (defScope s_Live_put) .none kV_Live_put dc_Live_put pc_Live_put an_Live_put cd_Live_put ct_Live_put), sl_Live_put⟩) (c_Live_put : PySem.W.codeIn K cd_Live_put "Live.put" = true) (k_Live_put : PySem.W.keepIn K (.ref f_Live_put) = true)
    (i_Live_put : PySem.W.isFn K (.ref f_Live_put) = true)
    {f_Live_several : Addr} {od_Live_several an_Live_several : Option Addr} {sl_Live_several : Array (Option Value)} {oc_Live_several kV_Live_several dc_Live_several pc_Live_several cd_Live_several ct_Live_several : Value}
    (a_Live_several : PySem.W.findIn K (.ref C_Live) "several" = some (some (.ref f_Live_several))) (l_Live_several : K.lookup f_Live_several = some ⟨oc_Live_several, od_Live_several, .func (PySem.W.fnOf "several" "Live.several" (defArgs s_Live_several) (defBody s_Live_several) (defScope s_Live_several) .none kV_Live_several dc_Live_several pc_Live_several an_Live_several cd_Live_several ct_Live_several), sl_Live_several⟩) (c_Live_several : PySem.W.codeIn K cd_Live_several "Live.several" = true) (k_Live_several : PySem.W.keepIn K (.ref f_Live_several) = true)
    (i_Live_several : PySem.W.isFn K (.ref f_Live_several) = true)
    {f_led_point : Addr} {od_led_point an_led_point : Option Addr} {sl_led_point : Array (Option Value)} {oc_led_point kV_led_point dc_led_point pc_led_point cd_led_point ct_led_point : Value}
    (a_led_point : PySem.W.nsIn K mainGlobals "led_point" = some (some (.ref f_led_point))) (l_led_point : K.lookup f_led_point = some ⟨oc_led_point, od_led_point, .func (PySem.W.fnOf "led_point" "led_point" (defArgs s_led_point) (defBody s_led_point) (defScope s_led_point) .none kV_led_point dc_led_point pc_led_point an_led_point cd_led_point ct_led_point), sl_led_point⟩) (c_led_point : PySem.W.codeIn K cd_led_point "led_point" = true) (k_led_point : PySem.W.keepIn K (.ref f_led_point) = true)
    {f_Rule_led : Addr} {od_Rule_led an_Rule_led : Option Addr} {sl_Rule_led : Array (Option Value)} {oc_Rule_led kV_Rule_led dc_Rule_led pc_Rule_led cd_Rule_led ct_Rule_led : Value}
    (a_Rule_led : PySem.W.findIn K (.ref C_Rule) "led" = some (some (.ref f_Rule_led))) (l_Rule_led : K.lookup f_Rule_led = some ⟨oc_Rule_led, od_Rule_led, .func (PySem.W.fnOf "led" "Rule.led" (defArgs s_Rule_led) (defBody s_Rule_led) (defScope s_Rule_led) .none kV_Rule_led dc_Rule_led pc_Rule_led an_Rule_led cd_Rule_led ct_Rule_led), sl_Rule_led⟩) (c_Rule_led : PySem.W.codeIn K cd_Rule_led "Rule.led" = true) (k_Rule_led : PySem.W.keepIn K (.ref f_Rule_led) = true)
    (i_Rule_led : PySem.W.isFn K (.ref f_Rule_led) = true)
    {f_Rule_scaled : Addr} {od_Rule_scaled an_Rule_scaled : Option Addr} {sl_Rule_scaled : Array (Option Value)} {oc_Rule_scaled kV_Rule_scaled dc_Rule_scaled pc_Rule_scaled cd_Rule_scaled ct_Rule_scaled : Value}
    (a_Rule_scaled : PySem.W.findIn K (.ref C_Rule) "scaled" = some (some (.ref f_Rule_scaled))) (l_Rule_scaled : K.lookup f_Rule_scaled = some ⟨oc_Rule_scaled, od_Rule_scaled, .func (PySem.W.fnOf "scaled" "Rule.scaled" (defArgs s_Rule_scaled) (defBody s_Rule_scaled) (defScope s_Rule_scaled) .none kV_Rule_scaled dc_Rule_scaled pc_Rule_scaled an_Rule_scaled cd_Rule_scaled ct_Rule_scaled), sl_Rule_scaled⟩) (c_Rule_scaled : PySem.W.codeIn K cd_Rule_scaled "Rule.scaled" = true) (k_Rule_scaled : PySem.W.keepIn K (.ref f_Rule_scaled) = true)
    (i_Rule_scaled : PySem.W.isFn K (.ref f_Rule_scaled) = true)
    {f_area : Addr} {od_area an_area : Option Addr} {sl_area : Array (Option Value)} {oc_area kV_area dc_area pc_area cd_area ct_area : Value}
    (a_area : PySem.W.nsIn K mainGlobals "area" = some (some (.ref f_area))) (l_area : K.lookup f_area = some ⟨oc_area, od_area, .func (PySem.W.fnOf "area" "area" (defArgs s_area) (defBody s_area) (defScope s_area) .none kV_area dc_area pc_area an_area cd_area ct_area), sl_area⟩) (c_area : PySem.W.codeIn K cd_area "area" = true) (k_area : PySem.W.keepIn K (.ref f_area) = true)
    {f_need_points : Addr} {od_need_points an_need_points : Option Addr} {sl_need_points : Array (Option Value)} {oc_need_points kV_need_points dc_need_points pc_need_points cd_need_points ct_need_points : Value}
    (a_need_points : PySem.W.nsIn K mainGlobals "need_points" = some (some (.ref f_need_points))) (l_need_points : K.lookup f_need_points = some ⟨oc_need_points, od_need_points, .func (PySem.W.fnOf "need_points" "need_points" (defArgs s_need_points) (defBody s_need_points) (defScope s_need_points) .none kV_need_points dc_need_points pc_need_points an_need_points cd_need_points ct_need_points), sl_need_points⟩) (c_need_points : PySem.W.codeIn K cd_need_points "need_points" = true) (k_need_points : PySem.W.keepIn K (.ref f_need_points) = true)
    {f_powers_of : Addr} {od_powers_of an_powers_of : Option Addr} {sl_powers_of : Array (Option Value)} {oc_powers_of kV_powers_of dc_powers_of pc_powers_of cd_powers_of ct_powers_of : Value}
    (a_powers_of : PySem.W.nsIn K mainGlobals "powers_of" = some (some (.ref f_powers_of))) (l_powers_of : K.lookup f_powers_of = some ⟨oc_powers_of, od_powers_of, .func (PySem.W.fnOf "powers_of" "powers_of" (defArgs s_powers_of) (defBody s_powers_of) (defScope s_powers_of) .none kV_powers_of dc_powers_of pc_powers_of an_powers_of cd_powers_of ct_powers_of), sl_powers_of⟩) (c_powers_of : PySem.W.codeIn K cd_powers_of "powers_of" = true) (k_powers_of : PySem.W.keepIn K (.ref f_powers_of) = true)
    {f_best : Addr} {od_best an_best : Option Addr} {sl_best : Array (Option Value)} {oc_best kV_best dc_best pc_best cd_best ct_best : Value}
    (a_best : PySem.W.nsIn K mainGlobals "best" = some (some (.ref f_best))) (l_best : K.lookup f_best = some ⟨oc_best, od_best, .func (PySem.W.fnOf "best" "best" (defArgs s_best) (defBody s_best) (defScope s_best) .none kV_best dc_best pc_best an_best cd_best ct_best), sl_best⟩) (c_best : PySem.W.codeIn K cd_best "best" = true) (k_best : PySem.W.keepIn K (.ref f_best) = true)
    {f_best_kinds : Addr} {od_best_kinds an_best_kinds : Option Addr} {sl_best_kinds : Array (Option Value)} {oc_best_kinds kV_best_kinds dc_best_kinds pc_best_kinds cd_best_kinds ct_best_kinds : Value}
    (a_best_kinds : PySem.W.nsIn K mainGlobals "best_kinds" = some (some (.ref f_best_kinds))) (l_best_kinds : K.lookup f_best_kinds = some ⟨oc_best_kinds, od_best_kinds, .func (PySem.W.fnOf "best_kinds" "best_kinds" (defArgs s_best_kinds) (defBody s_best_kinds) (defScope s_best_kinds) .none kV_best_kinds dc_best_kinds pc_best_kinds an_best_kinds cd_best_kinds ct_best_kinds), sl_best_kinds⟩) (c_best_kinds : PySem.W.codeIn K cd_best_kinds "best_kinds" = true) (k_best_kinds : PySem.W.keepIn K (.ref f_best_kinds) = true)
    {f_brackets : Addr} {od_brackets an_brackets : Option Addr} {sl_brackets : Array (Option Value)} {oc_brackets kV_brackets dc_brackets pc_brackets cd_brackets ct_brackets : Value}
    (a_brackets : PySem.W.nsIn K mainGlobals "brackets" = some (some (.ref f_brackets))) (l_brackets : K.lookup f_brackets = some ⟨oc_brackets, od_brackets, .func (PySem.W.fnOf "brackets" "brackets" (defArgs s_brackets) (defBody s_brackets) (defScope s_brackets) .none kV_brackets dc_brackets pc_brackets an_brackets cd_brackets ct_brackets), sl_brackets⟩) (c_brackets : PySem.W.codeIn K cd_brackets "brackets" = true) (k_brackets : PySem.W.keepIn K (.ref f_brackets) = true)
    {f_finer : Addr} {od_finer an_finer : Option Addr} {sl_finer : Array (Option Value)} {oc_finer kV_finer dc_finer pc_finer cd_finer ct_finer : Value}
    (a_finer : PySem.W.nsIn K mainGlobals "finer" = some (some (.ref f_finer))) (l_finer : K.lookup f_finer = some ⟨oc_finer, od_finer, .func (PySem.W.fnOf "finer" "finer" (defArgs s_finer) (defBody s_finer) (defScope s_finer) .none kV_finer dc_finer pc_finer an_finer cd_finer ct_finer), sl_finer⟩) (c_finer : PySem.W.codeIn K cd_finer "finer" = true) (k_finer : PySem.W.keepIn K (.ref f_finer) = true)
    {f_mixed : Addr} {od_mixed an_mixed : Option Addr} {sl_mixed : Array (Option Value)} {oc_mixed kV_mixed dc_mixed pc_mixed cd_mixed ct_mixed : Value}
    (a_mixed : PySem.W.nsIn K mainGlobals "mixed" = some (some (.ref f_mixed))) (l_mixed : K.lookup f_mixed = some ⟨oc_mixed, od_mixed, .func (PySem.W.fnOf "mixed" "mixed" (defArgs s_mixed) (defBody s_mixed) (defScope s_mixed) .none kV_mixed dc_mixed pc_mixed an_mixed cd_mixed ct_mixed), sl_mixed⟩) (c_mixed : PySem.W.codeIn K cd_mixed "mixed" = true) (k_mixed : PySem.W.keepIn K (.ref f_mixed) = true)
    {f_w_made_right : Addr} {od_w_made_right an_w_made_right : Option Addr} {sl_w_made_right : Array (Option Value)} {oc_w_made_right kV_w_made_right dc_w_made_right pc_w_made_right cd_w_made_right ct_w_made_right : Value}
    (a_w_made_right : PySem.W.nsIn K mainGlobals "_law_made_right" = some (some (.ref f_w_made_right))) (l_w_made_right : K.lookup f_w_made_right = some ⟨oc_w_made_right, od_w_made_right, .func (PySem.W.fnOf "_law_made_right" "_law_made_right" (defArgs s_w_made_right) (defBody s_w_made_right) (defScope s_w_made_right) .none kV_w_made_right dc_w_made_right pc_w_made_right an_w_made_right cd_w_made_right ct_w_made_right), sl_w_made_right⟩) (c_w_made_right : PySem.W.codeIn K cd_w_made_right "_law_made_right" = true) (k_w_made_right : PySem.W.keepIn K (.ref f_w_made_right) = true)
    {f_w_number : Addr} {od_w_number an_w_number : Option Addr} {sl_w_number : Array (Option Value)} {oc_w_number kV_w_number dc_w_number pc_w_number cd_w_number ct_w_number : Value}
    (a_w_number : PySem.W.nsIn K mainGlobals "_law_number" = some (some (.ref f_w_number))) (l_w_number : K.lookup f_w_number = some ⟨oc_w_number, od_w_number, .func (PySem.W.fnOf "_law_number" "_law_number" (defArgs s_w_number) (defBody s_w_number) (defScope s_w_number) .none kV_w_number dc_w_number pc_w_number an_w_number cd_w_number ct_w_number), sl_w_number⟩) (c_w_number : PySem.W.codeIn K cd_w_number "_law_number" = true) (k_w_number : PySem.W.keepIn K (.ref f_w_number) = true)
    {f_told_kink : Addr} {od_told_kink an_told_kink : Option Addr} {sl_told_kink : Array (Option Value)} {oc_told_kink kV_told_kink dc_told_kink pc_told_kink cd_told_kink ct_told_kink : Value}
    (a_told_kink : PySem.W.nsIn K mainGlobals "told_kink" = some (some (.ref f_told_kink))) (l_told_kink : K.lookup f_told_kink = some ⟨oc_told_kink, od_told_kink, .func (PySem.W.fnOf "told_kink" "told_kink" (defArgs s_told_kink) (defBody s_told_kink) (defScope s_told_kink) .none kV_told_kink dc_told_kink pc_told_kink an_told_kink cd_told_kink ct_told_kink), sl_told_kink⟩) (c_told_kink : PySem.W.codeIn K cd_told_kink "told_kink" = true) (k_told_kink : PySem.W.keepIn K (.ref f_told_kink) = true)
    {f_Block_init : Addr} {od_Block_init an_Block_init : Option Addr} {sl_Block_init : Array (Option Value)} {oc_Block_init kV_Block_init dc_Block_init pc_Block_init cd_Block_init ct_Block_init : Value}
    (a_Block_init : PySem.W.findIn K (.ref C_Block) "__init__" = some (some (.ref f_Block_init))) (l_Block_init : K.lookup f_Block_init = some ⟨oc_Block_init, od_Block_init, .func (PySem.W.fnOf "__init__" "Block.__init__" (defArgs s_Block_init) (defBody s_Block_init) (defScope s_Block_init) .none kV_Block_init dc_Block_init pc_Block_init an_Block_init cd_Block_init ct_Block_init), sl_Block_init⟩) (c_Block_init : PySem.W.codeIn K cd_Block_init "Block.__init__" = true) (k_Block_init : PySem.W.keepIn K (.ref f_Block_init) = true)
    (i_Block_init : PySem.W.isFn K (.ref f_Block_init) = true)
    (mk_Block : PySem.W.makesIn K C_Block = true) (kc_Block : PySem.W.keepIn K (.ref C_Block) = true)
    {f_Block_enter : Addr} {od_Block_enter an_Block_enter : Option Addr} {sl_Block_enter : Array (Option Value)} {oc_Block_enter kV_Block_enter dc_Block_enter pc_Block_enter cd_Block_enter ct_Block_enter : Value}
    (a_Block_enter : PySem.W.findIn K (.ref C_Block) "__enter__" = some (some (.ref f_Block_enter))) (l_Block_enter : K.lookup f_Block_enter = some ⟨oc_Block_enter, od_Block_enter, .func (PySem.W.fnOf "__enter__" "Block.__enter__" (defArgs s_Block_enter) (defBody s_Block_enter) (defScope s_Block_enter) .none kV_Block_enter dc_Block_enter pc_Block_enter an_Block_enter cd_Block_enter ct_Block_enter), sl_Block_enter⟩) (c_Block_enter : PySem.W.codeIn K cd_Block_enter "Block.__enter__" = true) (k_Block_enter : PySem.W.keepIn K (.ref f_Block_enter) = true)
    (i_Block_enter : PySem.W.isFn K (.ref f_Block_enter) = true)
    {f_Block_exit : Addr} {od_Block_exit an_Block_exit : Option Addr} {sl_Block_exit : Array (Option Value)} {oc_Block_exit kV_Block_exit dc_Block_exit pc_Block_exit cd_Block_exit ct_Block_exit : Value}
    (a_Block_exit : PySem.W.findIn K (.ref C_Block) "__exit__" = some (some (.ref f_Block_exit))) (l_Block_exit : K.lookup f_Block_exit = some ⟨oc_Block_exit, od_Block_exit, .func (PySem.W.fnOf "__exit__" "Block.__exit__" (defArgs s_Block_exit) (defBody s_Block_exit) (defScope s_Block_exit) .none kV_Block_exit dc_Block_exit pc_Block_exit an_Block_exit cd_Block_exit ct_Block_exit), sl_Block_exit⟩) (c_Block_exit : PySem.W.codeIn K cd_Block_exit "Block.__exit__" = true) (k_Block_exit : PySem.W.keepIn K (.ref f_Block_exit) = true)
    (i_Block_exit : PySem.W.isFn K (.ref f_Block_exit) = true)
    {f_Live_within : Addr} {od_Live_within an_Live_within : Option Addr} {sl_Live_within : Array (Option Value)} {oc_Live_within kV_Live_within dc_Live_within pc_Live_within cd_Live_within ct_Live_within : Value}
    (a_Live_within : PySem.W.findIn K (.ref C_Live) "within" = some (some (.ref f_Live_within))) (l_Live_within : K.lookup f_Live_within = some ⟨oc_Live_within, od_Live_within, .func (PySem.W.fnOf "within" "Live.within" (defArgs s_Live_within) (defBody s_Live_within) (defScope s_Live_within) .none kV_Live_within dc_Live_within pc_Live_within an_Live_within cd_Live_within ct_Live_within), sl_Live_within⟩) (c_Live_within : PySem.W.codeIn K cd_Live_within "Live.within" = true) (k_Live_within : PySem.W.keepIn K (.ref f_Live_within) = true)
    (i_Live_within : PySem.W.isFn K (.ref f_Live_within) = true)
    {f_law : Addr} {od_law an_law : Option Addr} {sl_law : Array (Option Value)} {oc_law kV_law dc_law pc_law cd_law ct_law : Value}
    (a_law : PySem.W.nsIn K mainGlobals "law" = some (some (.ref f_law))) (l_law : K.lookup f_law = some ⟨oc_law, od_law, .func (PySem.W.fnOf "law" "law" (defArgs s_law) (defBody s_law) (defScope s_law) .none kV_law dc_law pc_law an_law cd_law ct_law), sl_law⟩) (c_law : PySem.W.codeIn K cd_law "law" = true) (k_law : PySem.W.keepIn K (.ref f_law) = true)
    (is1_Rule : PySem.W.findIn K (.ref C_Rule) "__class__" = some (some (.builtin "object.__class__"))) (is2_Rule : PySem.W.specialIn K (.builtin "object.__class__") "__get__" = some (some (.builtin "getset_descriptor.__get__"))) (is3_Rule : PySem.W.takesIn K (.builtin "object.__class__") = some true) (is4_Rule : PySem.W.mroIn K C_Rule (.type "object") = some true) (is5_Rule : PySem.W.kitOne K (.ref C_Rule) (.ref C_Rule) = some true)
    (ot0_Rule : PySem.W.kitOne K (.type "NoneType") (.ref C_Rule) = some false)
    (ot1_Rule : PySem.W.kitOne K (.type "bool") (.ref C_Rule) = some false)
    (ot2_Rule : PySem.W.kitOne K (.type "int") (.ref C_Rule) = some false)
    (ot3_Rule : PySem.W.kitOne K (.type "str") (.ref C_Rule) = some false)
    (ot4_Rule : PySem.W.kitOne K (.type "list") (.ref C_Rule) = some false)
    (ot5_Rule : PySem.W.kitOne K (.type "tuple") (.ref C_Rule) = some false)
    (nf_Rule : PySem.W.notFirst K C_Rule (.ref C_Rule) = true)
    (om_Rule : PySem.W.mroIn K C_Rule (.type "object") = some true)
    (on_Rule : PySem.W.findIn K (.ref C_Rule) "__ne__" = some (some (.builtin "object.__ne__")))
    (sf_Rule : PySem.W.selfFirst K C_Rule = true)
    {gt_DIGITS : Tok} (a_DIGITS : PySem.W.nsIn K mainGlobals "DIGITS" = some (some (.str ("0123456789") gt_DIGITS)))
    {g_KINDS : Addr} {gd_KINDS : Option Addr} {gi_KINDS : Array Value} {gn_KINDS : Nat} {gs_KINDS : Array (Option Value)} (a_KINDS : PySem.W.nsIn K mainGlobals "KINDS" = some (some (.ref g_KINDS))) (l_KINDS : K.lookup g_KINDS = some ⟨.type "tuple", gd_KINDS, .seq gi_KINDS gn_KINDS, gs_KINDS⟩) (v_KINDS : gi_KINDS.size ≤ sizeLine ∧ ∃ vs, Vals vs gi_KINDS.toList ∧ ∀ H, DRs K H vs [.str "0", .str "1", .str "2", .str "3", .str "4", .str "5", .str "6"])
    {gt_LETTERS : Tok} (a_LETTERS : PySem.W.nsIn K mainGlobals "LETTERS" = some (some (.str ("abcdefghijklmnopqrstuvwxyz") gt_LETTERS)))
    {gt_MOST_DIGITS : Tok} (a_MOST_DIGITS : PySem.W.nsIn K mainGlobals "MOST_DIGITS" = some (some (.int (9) gt_MOST_DIGITS)))
    {g_NOUGHT : Addr} {gd_NOUGHT : Option Addr} {gi_NOUGHT : Array Value} {gn_NOUGHT : Nat} {gs_NOUGHT : Array (Option Value)} (a_NOUGHT : PySem.W.nsIn K mainGlobals "NOUGHT" = some (some (.ref g_NOUGHT))) (l_NOUGHT : K.lookup g_NOUGHT = some ⟨.type "tuple", gd_NOUGHT, .seq gi_NOUGHT gn_NOUGHT, gs_NOUGHT⟩) (v_NOUGHT : gi_NOUGHT.size ≤ sizeLine ∧ ∃ vs, Vals vs gi_NOUGHT.toList ∧ ∀ H, DRs K H vs [.int (0), .int (1)])
    {g_ONE : Addr} {gd_ONE : Option Addr} {gi_ONE : Array Value} {gn_ONE : Nat} {gs_ONE : Array (Option Value)} (a_ONE : PySem.W.nsIn K mainGlobals "ONE" = some (some (.ref g_ONE))) (l_ONE : K.lookup g_ONE = some ⟨.type "tuple", gd_ONE, .seq gi_ONE gn_ONE, gs_ONE⟩) (v_ONE : gi_ONE.size ≤ sizeLine ∧ ∃ vs, Vals vs gi_ONE.toList ∧ ∀ H, DRs K H vs [.int (1), .int (1)])
    (z_abs : PySem.W.nsIn K mainGlobals "abs" = some none)
    (z_all : PySem.W.nsIn K mainGlobals "all" = some none)
    (z_any : PySem.W.nsIn K mainGlobals "any" = some none)
    (z_bool : PySem.W.nsIn K mainGlobals "bool" = some none)
    (z_enumerate : PySem.W.nsIn K mainGlobals "enumerate" = some none)
    (z_int : PySem.W.nsIn K mainGlobals "int" = some none)
    (z_isinstance : PySem.W.nsIn K mainGlobals "isinstance" = some none)
    (z_len : PySem.W.nsIn K mainGlobals "len" = some none)
    (z_list : PySem.W.nsIn K mainGlobals "list" = some none)
    (z_max : PySem.W.nsIn K mainGlobals "max" = some none)
    (z_min : PySem.W.nsIn K mainGlobals "min" = some none)
    (z_range : PySem.W.nsIn K mainGlobals "range" = some none)
    (z_set : PySem.W.nsIn K mainGlobals "set" = some none)
    (z_sorted : PySem.W.nsIn K mainGlobals "sorted" = some none)
    (z_str : PySem.W.nsIn K mainGlobals "str" = some none)
    (z_tuple : PySem.W.nsIn K mainGlobals "tuple" = some none)
    (z_zip : PySem.W.nsIn K mainGlobals "zip" = some none)
    {c9 P9 : Addr} {dd9 : Option Addr} {vs9 : Array Value} {sl9 : Array (Option Value)} (cd9 : cd_law = .ref c9) (lc9 : K.lookup c9 = some ⟨.type "code", dd9, .fields vs9, sl9⟩) (h9 : vs9[11]? = some (.ref P9)) (b9 : cdB vs9 = true) (n9 : c9 ≠ P9) (t9 : K.lookup P9 = none)
    : ∃ (fd : FuncData) (c P9 : Addr) (o : Obj) (dd : Option Addr) (vs : Array Value) (sl : Array (Option Value)), (∀ (s : Shared) (u : Value), BindsTo s fd ⟨[u], []⟩ [("_law_script", u)]) ∧ K.lookup fa = some o ∧ o.data = .func fd ∧ fd.code = .ref c ∧
      K.lookup c = some ⟨.type "code", dd, .fields vs, sl⟩ ∧ vs[11]? = some (.ref P9) ∧ cdB vs = true ∧ c ≠ P9 ∧ K.lookup P9 = none ∧ ∀ base : Heap, K.In base → base.Ns mainGlobals mg → LamX.TabB base mg c P9 → FnOk l.prog w K mg base CX0 13 fa fd ["_law_script"] (spL K r_law P9) := by
  have e := hfa.symm.trans (PySem.W.mg_of X G a_law)
  cases e
  have T : ∃ T : Txt K mg, T.law = fnT X G a_law l_law c_law k_law := ⟨{ Block := ⟨C_Block, PySem.W.mg_of X G aC_Block, aC_Block, ⟨pg_Block, hd_Block, po_Block, sa_Block⟩, na_list2 na_Block_0 na_Block_1⟩, Desk := ⟨C_Desk, PySem.W.mg_of X G aC_Desk, aC_Desk, ⟨pg_Desk, hd_Desk, po_Desk, sa_Desk⟩, na_list1 na_Desk_0⟩, Live := ⟨C_Live, PySem.W.mg_of X G aC_Live, aC_Live, ⟨pg_Live, hd_Live, po_Live, sa_Live⟩, na_list1 na_Live_0⟩, Rule := ⟨C_Rule, PySem.W.mg_of X G aC_Rule, aC_Rule, ⟨pg_Rule, hd_Rule, po_Rule, sa_Rule⟩, na_list4 na_Rule_0 na_Rule_1 na_Rule_2 na_Rule_3⟩, Desk_init := ⟨f_Desk_init, _, fun_mk l_Desk_init c_Desk_init k_Desk_init, ⟨a_Desk_init, i_Desk_init, k_Desk_init⟩⟩, mk_Desk := ⟨mk_Desk, a_Desk_init, i_Desk_init, kc_Desk⟩, Desk_has := ⟨f_Desk_has, _, fun_mk l_Desk_has c_Desk_has k_Desk_has, ⟨a_Desk_has, i_Desk_has, k_Desk_has⟩⟩, text_of := fnT X G a_text_of l_text_of c_text_of k_text_of, Rule_str := ⟨f_Rule_str, _, fun_mk l_Rule_str c_Rule_str k_Rule_str, ⟨a_Rule_str, i_Rule_str, k_Rule_str⟩⟩, Rule_eq := ⟨f_Rule_eq, _, fun_mk l_Rule_eq c_Rule_eq k_Rule_eq, ⟨a_Rule_eq, i_Rule_eq, k_Rule_eq⟩⟩, is_sequence := fnT X G a_is_sequence l_is_sequence c_is_sequence k_is_sequence, is_less := fnT X G a_is_less l_is_less c_is_less k_is_less, is_integer := fnT X G a_is_integer l_is_integer c_is_integer k_is_integer, divisor := fnT X G a_divisor l_divisor c_divisor k_divisor, is_pair := fnT X G a_is_pair l_is_pair c_is_pair k_is_pair, is_value := fnT X G a_is_value l_is_value c_is_value k_is_value, value_of := fnT X G a_value_of l_value_of c_value_of k_value_of, is_between := fnT X G a_is_between l_is_between c_is_between k_is_between, is_share := fnT X G a_is_share l_is_share c_is_share k_is_share, is_weight := fnT X G a_is_weight l_is_weight c_is_weight k_is_weight, ascending := fnT X G a_ascending l_ascending c_ascending k_ascending, lowest := fnT X G a_lowest l_lowest c_lowest k_lowest, added := fnT X G a_added l_added c_added k_added, summed := fnT X G a_summed l_summed c_summed k_summed, least_shares := fnT X G a_least_shares l_least_shares c_least_shares k_least_shares, least_weights := fnT X G a_least_weights l_least_weights c_least_weights k_least_weights, need_stretch := fnT X G a_need_stretch l_need_stretch c_need_stretch k_need_stretch, Rule_init := ⟨f_Rule_init, _, v_Rule_init.choose, ⟨⟨_, _, _, _, _, _, _, _, _, _, rfl, l_Rule_init, c_Rule_init, .inr ⟨vne v_Rule_init.choose_spec.2 rfl, _, _, _, _, rfl, t_Rule_init, td_Rule_init, v_Rule_init.choose_spec.1⟩, .inl rfl⟩, k_Rule_init⟩, ⟨a_Rule_init, i_Rule_init, k_Rule_init⟩, v_Rule_init.choose_spec.2⟩, mk_Rule := ⟨mk_Rule, a_Rule_init, i_Rule_init, kc_Rule⟩, Rule_neg := ⟨f_Rule_neg, _, fun_mk l_Rule_neg c_Rule_neg k_Rule_neg, ⟨a_Rule_neg, i_Rule_neg, k_Rule_neg⟩⟩, Rule_add := ⟨f_Rule_add, _, fun_mk l_Rule_add c_Rule_add k_Rule_add, ⟨a_Rule_add, i_Rule_add, k_Rule_add⟩⟩, Rule_sub := ⟨f_Rule_sub, _, fun_mk l_Rule_sub c_Rule_sub k_Rule_sub, ⟨a_Rule_sub, i_Rule_sub, k_Rule_sub⟩⟩, trimmed := fnT X G a_trimmed l_trimmed c_trimmed k_trimmed, integers_of := fnT X G a_integers_of l_integers_of c_integers_of k_integers_of, quotient := fnT X G a_quotient l_quotient c_quotient k_quotient, area_powers := fnT X G a_area_powers l_area_powers c_area_powers k_area_powers, less_by := fnT X G a_less_by l_less_by c_less_by k_less_by, multiplied := fnT X G a_multiplied l_multiplied c_multiplied k_multiplied, value_at_rules := ⟨f_value_at_rules, _, fun_mk l_value_at_rules c_value_at_rules k_value_at_rules, PySem.W.mg_of X G a_value_at_rules⟩, told := fnT X G a_told l_told c_told k_told, degree := fnT X G a_degree l_degree c_degree k_degree, is_exact_enough := fnT X G a_is_exact_enough l_is_exact_enough c_is_exact_enough k_is_exact_enough, plus := ⟨f_plus, _, v_plus.choose, ⟨⟨_, _, _, _, _, _, _, _, _, _, rfl, l_plus, c_plus, .inr ⟨vne v_plus.choose_spec.2 rfl, _, _, _, _, rfl, t_plus, td_plus, v_plus.choose_spec.1⟩, .inl rfl⟩, k_plus⟩, PySem.W.mg_of X G a_plus, v_plus.choose_spec.2⟩, primitive := fnT X G a_primitive l_primitive c_primitive k_primitive, product := fnT X G a_product l_product c_product k_product, sign_of := fnT X G a_sign_of l_sign_of c_sign_of k_sign_of, parted := fnT X G a_parted l_parted c_parted k_parted, rest := fnT X G a_rest l_rest c_rest k_rest, upright := fnT X G a_upright l_upright c_upright k_upright, common := fnT X G a_common l_common c_common k_common, derived := fnT X G a_derived l_derived c_derived k_derived, divided := fnT X G a_divided l_divided c_divided k_divided, parts_of := fnT X G a_parts_of l_parts_of c_parts_of k_parts_of, chain_of := fnT X G a_chain_of l_chain_of c_chain_of k_chain_of, sign_changes := fnT X G a_sign_changes l_sign_changes c_sign_changes k_sign_changes, value_at_polys := ⟨f_value_at_polys, _, fun_mk l_value_at_polys c_value_at_polys k_value_at_polys, PySem.W.mg_of X G a_value_at_polys⟩, changes_at := fnT X G a_changes_at l_changes_at c_changes_at k_changes_at, once_each := fnT X G a_once_each l_once_each c_once_each k_once_each, roots_between := fnT X G a_roots_between l_roots_between c_roots_between k_roots_between, without_ends := fnT X G a_without_ends l_without_ends c_without_ends k_without_ends, is_nowhere_below := fnT X G a_is_nowhere_below l_is_nowhere_below c_is_nowhere_below k_is_nowhere_below, knots_of := fnT X G a_knots_of l_knots_of c_knots_of k_knots_of, powered := fnT X G a_powered l_powered c_powered k_powered, ways := fnT X G a_ways l_ways c_ways k_ways, distance_power := fnT X G a_distance_power l_distance_power c_distance_power k_distance_power, sum_of := fnT X G a_sum_of l_sum_of c_sum_of k_sum_of, piece := fnT X G a_piece l_piece c_piece k_piece, kernel := fnT X G a_kernel l_kernel c_kernel k_kernel, never_below := fnT X G a_never_below l_never_below c_never_below k_never_below, compare := fnT X G a_compare l_compare c_compare k_compare, need := fnT X G a_need l_need c_need k_need, Desk_answer := ⟨f_Desk_answer, _, fun_mk l_Desk_answer c_Desk_answer k_Desk_answer, ⟨a_Desk_answer, i_Desk_answer, k_Desk_answer⟩⟩, shown_text := fnT X G a_shown_text l_shown_text c_shown_text k_shown_text, Desk_keep := ⟨f_Desk_keep, _, fun_mk l_Desk_keep c_Desk_keep k_Desk_keep, ⟨a_Desk_keep, i_Desk_keep, k_Desk_keep⟩⟩, number_in := fnT X G a_number_in l_number_in c_number_in k_number_in, value_in := fnT X G a_value_in l_value_in c_value_in k_value_in, words_in := fnT X G a_words_in l_words_in c_words_in k_words_in, Rule_read := ⟨p_Rule_read, f_Rule_read, _, .type "type", fun_mk l_Rule_read c_Rule_read k_Rule_read, ⟨rd_Rule_read, ga_Rule_read⟩, ⟨a_Rule_read, ⟨rs_Rule_read, r_Rule_read⟩, i_Rule_read⟩⟩, is_name := fnT X G a_is_name l_is_name c_is_name k_is_name, Desk_say := ⟨f_Desk_say, _, fun_mk l_Desk_say c_Desk_say k_Desk_say, ⟨a_Desk_say, i_Desk_say, k_Desk_say⟩⟩, Live_init := ⟨f_Live_init, _, fun_mk l_Live_init c_Live_init k_Live_init, ⟨a_Live_init, i_Live_init, k_Live_init⟩⟩, mk_Live := ⟨mk_Live, a_Live_init, i_Live_init, kc_Live⟩, Live_len := ⟨f_Live_len, _, fun_mk l_Live_len c_Live_len k_Live_len, ⟨a_Live_len, i_Live_len, k_Live_len⟩⟩, Live_shown := ⟨p_Live_shown, f_Live_shown, _, fun_mk l_Live_shown c_Live_shown k_Live_shown, ⟨a_Live_shown, pg_Live_shown, pt_Live_shown, ⟨rs_Live_shown, r_Live_shown⟩⟩⟩, Live_grow := ⟨f_Live_grow, _, fun_mk l_Live_grow c_Live_grow k_Live_grow, ⟨a_Live_grow, i_Live_grow, k_Live_grow⟩⟩, Live_cover := ⟨f_Live_cover, _, fun_mk l_Live_cover c_Live_cover k_Live_cover, ⟨a_Live_cover, i_Live_cover, k_Live_cover⟩⟩, Live_is_for := ⟨f_Live_is_for, _, fun_mk l_Live_is_for c_Live_is_for k_Live_is_for, ⟨a_Live_is_for, i_Live_is_for, k_Live_is_for⟩⟩, Live_put := ⟨f_Live_put, _, fun_mk l_Live_put c_Live_put k_Live_put, ⟨a_Live_put, i_Live_put, k_Live_put⟩⟩, Live_several := ⟨f_Live_several, _, fun_mk l_Live_several c_Live_several k_Live_several, ⟨a_Live_several, i_Live_several, k_Live_several⟩⟩, led_point := fnT X G a_led_point l_led_point c_led_point k_led_point, Rule_led := ⟨f_Rule_led, _, fun_mk l_Rule_led c_Rule_led k_Rule_led, ⟨a_Rule_led, i_Rule_led, k_Rule_led⟩⟩, Rule_scaled := ⟨f_Rule_scaled, _, fun_mk l_Rule_scaled c_Rule_scaled k_Rule_scaled, ⟨a_Rule_scaled, i_Rule_scaled, k_Rule_scaled⟩⟩, area := fnT X G a_area l_area c_area k_area, need_points := fnT X G a_need_points l_need_points c_need_points k_need_points, powers_of := fnT X G a_powers_of l_powers_of c_powers_of k_powers_of, best := fnT X G a_best l_best c_best k_best, best_kinds := fnT X G a_best_kinds l_best_kinds c_best_kinds k_best_kinds, brackets := fnT X G a_brackets l_brackets c_brackets k_brackets, finer := fnT X G a_finer l_finer c_finer k_finer, mixed := fnT X G a_mixed l_mixed c_mixed k_mixed, w_made_right := fnT X G a_w_made_right l_w_made_right c_w_made_right k_w_made_right, w_number := fnT X G a_w_number l_w_number c_w_number k_w_number, told_kink := fnT X G a_told_kink l_told_kink c_told_kink k_told_kink, Block_init := ⟨f_Block_init, _, fun_mk l_Block_init c_Block_init k_Block_init, ⟨a_Block_init, i_Block_init, k_Block_init⟩⟩, mk_Block := ⟨mk_Block, a_Block_init, i_Block_init, kc_Block⟩, Block_enter := ⟨f_Block_enter, _, fun_mk l_Block_enter c_Block_enter k_Block_enter, ⟨a_Block_enter, i_Block_enter, k_Block_enter⟩⟩, Block_exit := ⟨f_Block_exit, _, fun_mk l_Block_exit c_Block_exit k_Block_exit, ⟨a_Block_exit, i_Block_exit, k_Block_exit⟩⟩, Live_within := ⟨f_Live_within, _, fun_mk l_Live_within c_Live_within k_Live_within, ⟨a_Live_within, i_Live_within, k_Live_within⟩⟩, law := fnT X G a_law l_law c_law k_law, is_Rule := ⟨⟨⟨pg_Rule, hd_Rule, po_Rule, sa_Rule⟩, is1_Rule, is2_Rule, is3_Rule, is4_Rule, is5_Rule⟩, ot_list ot0_Rule ot1_Rule ot2_Rule ot3_Rule ot4_Rule ot5_Rule⟩, nf_Rule := nf_Rule, om_Rule := om_Rule, on_Rule := on_Rule, sf_Rule := sf_Rule, DIGITS := coStr X G a_DIGITS, KINDS := coTup X G a_KINDS l_KINDS v_KINDS.1 (Classical.choose_spec v_KINDS.2).1 (Classical.choose_spec v_KINDS.2).2, LETTERS := coStr X G a_LETTERS, MOST_DIGITS := coInt X G a_MOST_DIGITS, NOUGHT := coTup X G a_NOUGHT l_NOUGHT v_NOUGHT.1 (Classical.choose_spec v_NOUGHT.2).1 (Classical.choose_spec v_NOUGHT.2).2, ONE := coTup X G a_ONE l_ONE v_ONE.1 (Classical.choose_spec v_ONE.2).1 (Classical.choose_spec v_ONE.2).2, abs := PySem.W.mg_none_of X G z_abs, all := PySem.W.mg_none_of X G z_all, any := PySem.W.mg_none_of X G z_any, bool := PySem.W.mg_none_of X G z_bool, enumerate := PySem.W.mg_none_of X G z_enumerate, int := PySem.W.mg_none_of X G z_int, isinstance := PySem.W.mg_none_of X G z_isinstance, len := PySem.W.mg_none_of X G z_len, list := PySem.W.mg_none_of X G z_list, max := PySem.W.mg_none_of X G z_max, min := PySem.W.mg_none_of X G z_min, range := PySem.W.mg_none_of X G z_range, set := PySem.W.mg_none_of X G z_set, sorted := PySem.W.mg_none_of X G z_sorted, str := PySem.W.mg_none_of X G z_str, tuple := PySem.W.mg_none_of X G z_tuple, zip := PySem.W.mg_none_of X G z_zip }, rfl⟩
  obtain ⟨T, hT⟩ := T
  refine ⟨(fnT X G a_law l_law c_law k_law).fd, c9, P9, _, dd9, vs9, sl9, fun s v => .of_eq rfl, l_law, rfl, cd9, lc9, h9, b9, n9, t9, fun base _ _ TB => ?_⟩
  have z := ok_law (P := l.prog) (w := w) (base := base) T TB (by rw [hT]; exact cd9)
  rw [hT] at z
  exact z
end Bk
open PySem PySem.W PyProof.Rows
section
set_option hygiene false in
local macro_rules | `(tactic| kernel_rfl) => `(tactic| first | (with_reducible (refine Bk.split3 ?_ ?_ ?_)); (exact Bk.hdA _ _); (refine Bk.viewT ?_ (Bk.hdC _ _); kernel_rfl!); (rename_i w9 os9; exact hP9 w9 os9) | kernel_rfl!)
set_option maxRecDepth 100000 in
set_option maxHeartbeats 0 in
noncomputable def Bk.T1 : {P : World → OsState → Prop // (∀ w os, P w os) → PySem.Challenge.rw_bendkinds_k12_rules_by_names.Holds} := by
  refine ⟨?P, fun hP9 => ?_⟩
  rotate_left
  w_on; o_law; k_headL; (case hw => w_witness2)
  k_fill
  refine Bk.law_endT (l := PySem.Challenge.rw_bendkinds_k12_rules_by_names) (x := "_law_script") (m := Bk.r_law) (k := 13) rfl rfl ⟨rfl, by decide, by decide⟩ (by first | rfl | decide +kernel) (fun w h Y => by first | exact PySem.W.kIn_of Y | exact Y.1) ?F Bk.law_true
  case F =>
    intro w mg fa h KX G hmg
    refine' Bk.all_mk KX G hmg ?aC_Block ?pg_Block ?hd_Block ?po_Block ?sa_Block ?na_Block_0 ?na_Block_1 ?aC_Desk ?pg_Desk ?hd_Desk ?po_Desk ?sa_Desk ?na_Desk_0 ?aC_Live ?pg_Live ?hd_Live ?po_Live ?sa_Live ?na_Live_0 ?aC_Rule ?pg_Rule ?hd_Rule ?po_Rule ?sa_Rule ?na_Rule_0 ?na_Rule_1 ?na_Rule_2 ?na_Rule_3 ?a_Desk_init ?l_Desk_init ?c_Desk_init ?k_Desk_init ?i_Desk_init ?mk_Desk ?kc_Desk ?a_Desk_has ?l_Desk_has ?c_Desk_has ?k_Desk_has ?i_Desk_has ?a_text_of ?l_text_of ?c_text_of ?k_text_of ?a_Rule_str ?l_Rule_str ?c_Rule_str ?k_Rule_str ?i_Rule_str ?a_Rule_eq ?l_Rule_eq ?c_Rule_eq ?k_Rule_eq ?i_Rule_eq ?a_is_sequence ?l_is_sequence ?c_is_sequence ?k_is_sequence ?a_is_less ?l_is_less ?c_is_less ?k_is_less ?a_is_integer ?l_is_integer ?c_is_integer ?k_is_integer ?a_divisor ?l_divisor ?c_divisor ?k_divisor ?a_is_pair ?l_is_pair ?c_is_pair ?k_is_pair ?a_is_value ?l_is_value ?c_is_value ?k_is_value ?a_value_of ?l_value_of ?c_value_of ?k_value_of ?a_is_between ?l_is_between ?c_is_between ?k_is_between ?a_is_share ?l_is_share ?c_is_share ?k_is_share ?a_is_weight ?l_is_weight ?c_is_weight ?k_is_weight ?a_ascending ?l_ascending ?c_ascending ?k_ascending ?a_lowest ?l_lowest ?c_lowest ?k_lowest ?a_added ?l_added ?c_added ?k_added ?a_summed ?l_summed ?c_summed ?k_summed ?a_least_shares ?l_least_shares ?c_least_shares ?k_least_shares ?a_least_weights ?l_least_weights ?c_least_weights ?k_least_weights ?a_need_stretch ?l_need_stretch ?c_need_stretch ?k_need_stretch ?t_Rule_init ?td_Rule_init ?v_Rule_init ?a_Rule_init ?l_Rule_init ?c_Rule_init ?k_Rule_init ?i_Rule_init ?mk_Rule ?kc_Rule ?a_Rule_neg ?l_Rule_neg ?c_Rule_neg ?k_Rule_neg ?i_Rule_neg ?a_Rule_add ?l_Rule_add ?c_Rule_add ?k_Rule_add ?i_Rule_add ?a_Rule_sub ?l_Rule_sub ?c_Rule_sub ?k_Rule_sub ?i_Rule_sub ?a_trimmed ?l_trimmed ?c_trimmed ?k_trimmed ?a_integers_of ?l_integers_of ?c_integers_of ?k_integers_of ?a_quotient ?l_quotient ?c_quotient ?k_quotient ?a_area_powers ?l_area_powers ?c_area_powers ?k_area_powers ?a_less_by ?l_less_by ?c_less_by ?k_less_by ?a_multiplied ?l_multiplied ?c_multiplied ?k_multiplied ?a_value_at_rules ?l_value_at_rules ?c_value_at_rules ?k_value_at_rules ?a_told ?l_told ?c_told ?k_told ?a_degree ?l_degree ?c_degree ?k_degree ?a_is_exact_enough ?l_is_exact_enough ?c_is_exact_enough ?k_is_exact_enough ?t_plus ?td_plus ?v_plus ?a_plus ?l_plus ?c_plus ?k_plus ?a_primitive ?l_primitive ?c_primitive ?k_primitive ?a_product ?l_product ?c_product ?k_product ?a_sign_of ?l_sign_of ?c_sign_of ?k_sign_of ?a_parted ?l_parted ?c_parted ?k_parted ?a_rest ?l_rest ?c_rest ?k_rest ?a_upright ?l_upright ?c_upright ?k_upright ?a_common ?l_common ?c_common ?k_common ?a_derived ?l_derived ?c_derived ?k_derived ?a_divided ?l_divided ?c_divided ?k_divided ?a_parts_of ?l_parts_of ?c_parts_of ?k_parts_of ?a_chain_of ?l_chain_of ?c_chain_of ?k_chain_of ?a_sign_changes ?l_sign_changes ?c_sign_changes ?k_sign_changes ?a_value_at_polys ?l_value_at_polys ?c_value_at_polys ?k_value_at_polys ?a_changes_at ?l_changes_at ?c_changes_at ?k_changes_at ?a_once_each ?l_once_each ?c_once_each ?k_once_each ?a_roots_between ?l_roots_between ?c_roots_between ?k_roots_between ?a_without_ends ?l_without_ends ?c_without_ends ?k_without_ends ?a_is_nowhere_below ?l_is_nowhere_below ?c_is_nowhere_below ?k_is_nowhere_below ?a_knots_of ?l_knots_of ?c_knots_of ?k_knots_of ?a_powered ?l_powered ?c_powered ?k_powered ?a_ways ?l_ways ?c_ways ?k_ways ?a_distance_power ?l_distance_power ?c_distance_power ?k_distance_power ?a_sum_of ?l_sum_of ?c_sum_of ?k_sum_of ?a_piece ?l_piece ?c_piece ?k_piece ?a_kernel ?l_kernel ?c_kernel ?k_kernel ?a_never_below ?l_never_below ?c_never_below ?k_never_below ?a_compare ?l_compare ?c_compare ?k_compare ?a_need ?l_need ?c_need ?k_need ?a_Desk_answer ?l_Desk_answer ?c_Desk_answer ?k_Desk_answer ?i_Desk_answer ?a_shown_text ?l_shown_text ?c_shown_text ?k_shown_text ?a_Desk_keep ?l_Desk_keep ?c_Desk_keep ?k_Desk_keep ?i_Desk_keep ?a_number_in ?l_number_in ?c_number_in ?k_number_in ?a_value_in ?l_value_in ?c_value_in ?k_value_in ?a_words_in ?l_words_in ?c_words_in ?k_words_in ?a_Rule_read ?r_Rule_read ?i_Rule_read ?rd_Rule_read ?ga_Rule_read ?l_Rule_read ?c_Rule_read ?k_Rule_read ?a_is_name ?l_is_name ?c_is_name ?k_is_name ?a_Desk_say ?l_Desk_say ?c_Desk_say ?k_Desk_say ?i_Desk_say ?a_Live_init ?l_Live_init ?c_Live_init ?k_Live_init ?i_Live_init ?mk_Live ?kc_Live ?a_Live_len ?l_Live_len ?c_Live_len ?k_Live_len ?i_Live_len ?a_Live_shown ?r_Live_shown ?pg_Live_shown ?pt_Live_shown ?l_Live_shown ?c_Live_shown ?k_Live_shown ?a_Live_grow ?l_Live_grow ?c_Live_grow ?k_Live_grow ?i_Live_grow ?a_Live_cover ?l_Live_cover ?c_Live_cover ?k_Live_cover ?i_Live_cover ?a_Live_is_for ?l_Live_is_for ?c_Live_is_for ?k_Live_is_for ?i_Live_is_for ?a_Live_put ?l_Live_put ?c_Live_put ?k_Live_put ?i_Live_put ?a_Live_several ?l_Live_several ?c_Live_several ?k_Live_several ?i_Live_several ?a_led_point ?l_led_point ?c_led_point ?k_led_point ?a_Rule_led ?l_Rule_led ?c_Rule_led ?k_Rule_led ?i_Rule_led ?a_Rule_scaled ?l_Rule_scaled ?c_Rule_scaled ?k_Rule_scaled ?i_Rule_scaled ?a_area ?l_area ?c_area ?k_area ?a_need_points ?l_need_points ?c_need_points ?k_need_points ?a_powers_of ?l_powers_of ?c_powers_of ?k_powers_of ?a_best ?l_best ?c_best ?k_best ?a_best_kinds ?l_best_kinds ?c_best_kinds ?k_best_kinds ?a_brackets ?l_brackets ?c_brackets ?k_brackets ?a_finer ?l_finer ?c_finer ?k_finer ?a_mixed ?l_mixed ?c_mixed ?k_mixed ?a_w_made_right ?l_w_made_right ?c_w_made_right ?k_w_made_right ?a_w_number ?l_w_number ?c_w_number ?k_w_number ?a_told_kink ?l_told_kink ?c_told_kink ?k_told_kink ?a_Block_init ?l_Block_init ?c_Block_init ?k_Block_init ?i_Block_init ?mk_Block ?kc_Block ?a_Block_enter ?l_Block_enter ?c_Block_enter ?k_Block_enter ?i_Block_enter ?a_Block_exit ?l_Block_exit ?c_Block_exit ?k_Block_exit ?i_Block_exit ?a_Live_within ?l_Live_within ?c_Live_within ?k_Live_within ?i_Live_within ?a_law ?l_law ?c_law ?k_law ?is1_Rule ?is2_Rule ?is3_Rule ?is4_Rule ?is5_Rule ?ot0_Rule ?ot1_Rule ?ot2_Rule ?ot3_Rule ?ot4_Rule ?ot5_Rule ?nf_Rule ?om_Rule ?on_Rule ?sf_Rule ?a_DIGITS ?a_KINDS ?l_KINDS ?v_KINDS ?a_LETTERS ?a_MOST_DIGITS ?a_NOUGHT ?l_NOUGHT ?v_NOUGHT ?a_ONE ?l_ONE ?v_ONE ?z_abs ?z_all ?z_any ?z_bool ?z_enumerate ?z_int ?z_isinstance ?z_len ?z_list ?z_max ?z_min ?z_range ?z_set ?z_sorted ?z_str ?z_tuple ?z_zip ?cd9 ?lc9 ?h9 ?b9 ?n9 ?t9
    (case aC_Block => k_is)
    (case pg_Block => k_is)
    (case hd_Block => k_is)
    (case po_Block => k_is)
    (case sa_Block => k_is)
    (case na_Block_0 => k_is)
    (case na_Block_1 => k_is)
    (case aC_Desk => k_is)
    (case pg_Desk => k_is)
    (case hd_Desk => k_is)
    (case po_Desk => k_is)
    (case sa_Desk => k_is)
    (case na_Desk_0 => k_is)
    (case aC_Live => k_is)
    (case pg_Live => k_is)
    (case hd_Live => k_is)
    (case po_Live => k_is)
    (case sa_Live => k_is)
    (case na_Live_0 => k_is)
    (case aC_Rule => k_is)
    (case pg_Rule => k_is)
    (case hd_Rule => k_is)
    (case po_Rule => k_is)
    (case sa_Rule => k_is)
    (case na_Rule_0 => k_is)
    (case na_Rule_1 => k_is)
    (case na_Rule_2 => k_is)
    (case na_Rule_3 => k_is)
    (case a_Desk_init => k_is)
    (case l_Desk_init => k_is)
    (case c_Desk_init => k_is)
    (case k_Desk_init => k_is)
    (case i_Desk_init => k_is)
    (case mk_Desk => k_is)
    (case kc_Desk => k_is)
    (case a_Desk_has => k_is)
    (case l_Desk_has => k_is)
    (case c_Desk_has => k_is)
    (case k_Desk_has => k_is)
    (case i_Desk_has => k_is)
    (case a_text_of => k_is)
    (case l_text_of => k_is)
    (case c_text_of => k_is)
    (case k_text_of => k_is)
    (case a_Rule_str => k_is)
    (case l_Rule_str => k_is)
    (case c_Rule_str => k_is)
    (case k_Rule_str => k_is)
    (case i_Rule_str => k_is)
    (case a_Rule_eq => k_is)
    (case l_Rule_eq => k_is)
    (case c_Rule_eq => k_is)
    (case k_Rule_eq => k_is)
    (case i_Rule_eq => k_is)
    (case a_is_sequence => k_is)
    (case l_is_sequence => k_is)
    (case c_is_sequence => k_is)
    (case k_is_sequence => k_is)
    (case a_is_less => k_is)
    (case l_is_less => k_is)
    (case c_is_less => k_is)
    (case k_is_less => k_is)
    (case a_is_integer => k_is)
    (case l_is_integer => k_is)
    (case c_is_integer => k_is)
    (case k_is_integer => k_is)
    (case a_divisor => k_is)
    (case l_divisor => k_is)
    (case c_divisor => k_is)
    (case k_divisor => k_is)
    (case a_is_pair => k_is)
    (case l_is_pair => k_is)
    (case c_is_pair => k_is)
    (case k_is_pair => k_is)
    (case a_is_value => k_is)
    (case l_is_value => k_is)
    (case c_is_value => k_is)
    (case k_is_value => k_is)
    (case a_value_of => k_is)
    (case l_value_of => k_is)
    (case c_value_of => k_is)
    (case k_value_of => k_is)
    (case a_is_between => k_is)
    (case l_is_between => k_is)
    (case c_is_between => k_is)
    (case k_is_between => k_is)
    (case a_is_share => k_is)
    (case l_is_share => k_is)
    (case c_is_share => k_is)
    (case k_is_share => k_is)
    (case a_is_weight => k_is)
    (case l_is_weight => k_is)
    (case c_is_weight => k_is)
    (case k_is_weight => k_is)
    (case a_ascending => k_is)
    (case l_ascending => k_is)
    (case c_ascending => k_is)
    (case k_ascending => k_is)
    (case a_lowest => k_is)
    (case l_lowest => k_is)
    (case c_lowest => k_is)
    (case k_lowest => k_is)
    (case a_added => k_is)
    (case l_added => k_is)
    (case c_added => k_is)
    (case k_added => k_is)
    (case a_summed => k_is)
    (case l_summed => k_is)
    (case c_summed => k_is)
    (case k_summed => k_is)
    (case a_least_shares => k_is)
    (case l_least_shares => k_is)
    (case c_least_shares => k_is)
    (case k_least_shares => k_is)
    (case a_least_weights => k_is)
    (case l_least_weights => k_is)
    (case c_least_weights => k_is)
    (case k_least_weights => k_is)
    (case a_need_stretch => k_is)
    (case l_need_stretch => k_is)
    (case c_need_stretch => k_is)
    (case k_need_stretch => k_is)
    (case a_Rule_init => k_is)
    (case l_Rule_init => k_is)
    (case c_Rule_init => k_is)
    (case k_Rule_init => k_is)
    (case i_Rule_init => k_is)
    (case mk_Rule => k_is)
    (case kc_Rule => k_is)
    (case a_Rule_neg => k_is)
    (case l_Rule_neg => k_is)
    (case c_Rule_neg => k_is)
    (case k_Rule_neg => k_is)
    (case i_Rule_neg => k_is)
    (case a_Rule_add => k_is)
    (case l_Rule_add => k_is)
    (case c_Rule_add => k_is)
    (case k_Rule_add => k_is)
    (case i_Rule_add => k_is)
    (case a_Rule_sub => k_is)
    (case l_Rule_sub => k_is)
    (case c_Rule_sub => k_is)
    (case k_Rule_sub => k_is)
    (case i_Rule_sub => k_is)
    (case a_trimmed => k_is)
    (case l_trimmed => k_is)
    (case c_trimmed => k_is)
    (case k_trimmed => k_is)
    (case a_integers_of => k_is)
    (case l_integers_of => k_is)
    (case c_integers_of => k_is)
    (case k_integers_of => k_is)
    (case a_quotient => k_is)
    (case l_quotient => k_is)
    (case c_quotient => k_is)
    (case k_quotient => k_is)
    (case a_area_powers => k_is)
    (case l_area_powers => k_is)
    (case c_area_powers => k_is)
    (case k_area_powers => k_is)
    (case a_less_by => k_is)
    (case l_less_by => k_is)
    (case c_less_by => k_is)
    (case k_less_by => k_is)
    (case a_multiplied => k_is)
    (case l_multiplied => k_is)
    (case c_multiplied => k_is)
    (case k_multiplied => k_is)
    (case a_value_at_rules => k_is)
    (case l_value_at_rules => k_is)
    (case c_value_at_rules => k_is)
    (case k_value_at_rules => k_is)
    (case a_told => k_is)
    (case l_told => k_is)
    (case c_told => k_is)
    (case k_told => k_is)
    (case a_degree => k_is)
    (case l_degree => k_is)
    (case c_degree => k_is)
    (case k_degree => k_is)
    (case a_is_exact_enough => k_is)
    (case l_is_exact_enough => k_is)
    (case c_is_exact_enough => k_is)
    (case k_is_exact_enough => k_is)
    (case a_plus => k_is)
    (case l_plus => k_is)
    (case c_plus => k_is)
    (case k_plus => k_is)
    (case a_primitive => k_is)
    (case l_primitive => k_is)
    (case c_primitive => k_is)
    (case k_primitive => k_is)
    (case a_product => k_is)
    (case l_product => k_is)
    (case c_product => k_is)
    (case k_product => k_is)
    (case a_sign_of => k_is)
    (case l_sign_of => k_is)
    (case c_sign_of => k_is)
    (case k_sign_of => k_is)
    (case a_parted => k_is)
    (case l_parted => k_is)
    (case c_parted => k_is)
    (case k_parted => k_is)
    (case a_rest => k_is)
    (case l_rest => k_is)
    (case c_rest => k_is)
    (case k_rest => k_is)
    (case a_upright => k_is)
    (case l_upright => k_is)
    (case c_upright => k_is)
    (case k_upright => k_is)
    (case a_common => k_is)
    (case l_common => k_is)
    (case c_common => k_is)
    (case k_common => k_is)
    (case a_derived => k_is)
    (case l_derived => k_is)
    (case c_derived => k_is)
    (case k_derived => k_is)
    (case a_divided => k_is)
    (case l_divided => k_is)
    (case c_divided => k_is)
    (case k_divided => k_is)
    (case a_parts_of => k_is)
    (case l_parts_of => k_is)
    (case c_parts_of => k_is)
    (case k_parts_of => k_is)
    (case a_chain_of => k_is)
    (case l_chain_of => k_is)
    (case c_chain_of => k_is)
    (case k_chain_of => k_is)
    (case a_sign_changes => k_is)
    (case l_sign_changes => k_is)
    (case c_sign_changes => k_is)
    (case k_sign_changes => k_is)
    (case a_value_at_polys => k_is)
    (case l_value_at_polys => k_is)
    (case c_value_at_polys => k_is)
    (case k_value_at_polys => k_is)
    (case a_changes_at => k_is)
    (case l_changes_at => k_is)
    (case c_changes_at => k_is)
    (case k_changes_at => k_is)
    (case a_once_each => k_is)
    (case l_once_each => k_is)
    (case c_once_each => k_is)
    (case k_once_each => k_is)
    (case a_roots_between => k_is)
    (case l_roots_between => k_is)
    (case c_roots_between => k_is)
    (case k_roots_between => k_is)
    (case a_without_ends => k_is)
    (case l_without_ends => k_is)
    (case c_without_ends => k_is)
    (case k_without_ends => k_is)
    (case a_is_nowhere_below => k_is)
    (case l_is_nowhere_below => k_is)
    (case c_is_nowhere_below => k_is)
    (case k_is_nowhere_below => k_is)
    (case a_knots_of => k_is)
    (case l_knots_of => k_is)
    (case c_knots_of => k_is)
    (case k_knots_of => k_is)
    (case a_powered => k_is)
    (case l_powered => k_is)
    (case c_powered => k_is)
    (case k_powered => k_is)
    (case a_ways => k_is)
    (case l_ways => k_is)
    (case c_ways => k_is)
    (case k_ways => k_is)
    (case a_distance_power => k_is)
    (case l_distance_power => k_is)
    (case c_distance_power => k_is)
    (case k_distance_power => k_is)
    (case a_sum_of => k_is)
    (case l_sum_of => k_is)
    (case c_sum_of => k_is)
    (case k_sum_of => k_is)
    (case a_piece => k_is)
    (case l_piece => k_is)
    (case c_piece => k_is)
    (case k_piece => k_is)
    (case a_kernel => k_is)
    (case l_kernel => k_is)
    (case c_kernel => k_is)
    (case k_kernel => k_is)
    (case a_never_below => k_is)
    (case l_never_below => k_is)
    (case c_never_below => k_is)
    (case k_never_below => k_is)
    (case a_compare => k_is)
    (case l_compare => k_is)
    (case c_compare => k_is)
    (case k_compare => k_is)
    (case a_need => k_is)
    (case l_need => k_is)
    (case c_need => k_is)
    (case k_need => k_is)
    (case a_Desk_answer => k_is)
    (case l_Desk_answer => k_is)
    (case c_Desk_answer => k_is)
    (case k_Desk_answer => k_is)
    (case i_Desk_answer => k_is)
    (case a_shown_text => k_is)
    (case l_shown_text => k_is)
    (case c_shown_text => k_is)
    (case k_shown_text => k_is)
    (case a_Desk_keep => k_is)
    (case l_Desk_keep => k_is)
    (case c_Desk_keep => k_is)
    (case k_Desk_keep => k_is)
    (case i_Desk_keep => k_is)
    (case a_number_in => k_is)
    (case l_number_in => k_is)
    (case c_number_in => k_is)
    (case k_number_in => k_is)
    (case a_value_in => k_is)
    (case l_value_in => k_is)
    (case c_value_in => k_is)
    (case k_value_in => k_is)
    (case a_words_in => k_is)
    (case l_words_in => k_is)
    (case c_words_in => k_is)
    (case k_words_in => k_is)
    (case a_Rule_read => k_is)
    (case r_Rule_read => k_is)
    (case i_Rule_read => k_is)
    (case rd_Rule_read => k_is)
    (case ga_Rule_read => k_is)
    (case l_Rule_read => k_is)
    (case c_Rule_read => k_is)
    (case k_Rule_read => k_is)
    (case a_is_name => k_is)
    (case l_is_name => k_is)
    (case c_is_name => k_is)
    (case k_is_name => k_is)
    (case a_Desk_say => k_is)
    (case l_Desk_say => k_is)
    (case c_Desk_say => k_is)
    (case k_Desk_say => k_is)
    (case i_Desk_say => k_is)
    (case a_Live_init => k_is)
    (case l_Live_init => k_is)
    (case c_Live_init => k_is)
    (case k_Live_init => k_is)
    (case i_Live_init => k_is)
    (case mk_Live => k_is)
    (case kc_Live => k_is)
    (case a_Live_len => k_is)
    (case l_Live_len => k_is)
    (case c_Live_len => k_is)
    (case k_Live_len => k_is)
    (case i_Live_len => k_is)
    (case a_Live_shown => k_is)
    (case r_Live_shown => k_is)
    (case pg_Live_shown => k_is)
    (case pt_Live_shown => k_is)
    (case l_Live_shown => k_is)
    (case c_Live_shown => k_is)
    (case k_Live_shown => k_is)
    (case a_Live_grow => k_is)
    (case l_Live_grow => k_is)
    (case c_Live_grow => k_is)
    (case k_Live_grow => k_is)
    (case i_Live_grow => k_is)
    (case a_Live_cover => k_is)
    (case l_Live_cover => k_is)
    (case c_Live_cover => k_is)
    (case k_Live_cover => k_is)
    (case i_Live_cover => k_is)
    (case a_Live_is_for => k_is)
    (case l_Live_is_for => k_is)
    (case c_Live_is_for => k_is)
    (case k_Live_is_for => k_is)
    (case i_Live_is_for => k_is)
    (case a_Live_put => k_is)
    (case l_Live_put => k_is)
    (case c_Live_put => k_is)
    (case k_Live_put => k_is)
    (case i_Live_put => k_is)
    (case a_Live_several => k_is)
    (case l_Live_several => k_is)
    (case c_Live_several => k_is)
    (case k_Live_several => k_is)
    (case i_Live_several => k_is)
    (case a_led_point => k_is)
    (case l_led_point => k_is)
    (case c_led_point => k_is)
    (case k_led_point => k_is)
    (case a_Rule_led => k_is)
    (case l_Rule_led => k_is)
    (case c_Rule_led => k_is)
    (case k_Rule_led => k_is)
    (case i_Rule_led => k_is)
    (case a_Rule_scaled => k_is)
    (case l_Rule_scaled => k_is)
    (case c_Rule_scaled => k_is)
    (case k_Rule_scaled => k_is)
    (case i_Rule_scaled => k_is)
    (case a_area => k_is)
    (case l_area => k_is)
    (case c_area => k_is)
    (case k_area => k_is)
    (case a_need_points => k_is)
    (case l_need_points => k_is)
    (case c_need_points => k_is)
    (case k_need_points => k_is)
    (case a_powers_of => k_is)
    (case l_powers_of => k_is)
    (case c_powers_of => k_is)
    (case k_powers_of => k_is)
    (case a_best => k_is)
    (case l_best => k_is)
    (case c_best => k_is)
    (case k_best => k_is)
    (case a_best_kinds => k_is)
    (case l_best_kinds => k_is)
    (case c_best_kinds => k_is)
    (case k_best_kinds => k_is)
    (case a_brackets => k_is)
    (case l_brackets => k_is)
    (case c_brackets => k_is)
    (case k_brackets => k_is)
    (case a_finer => k_is)
    (case l_finer => k_is)
    (case c_finer => k_is)
    (case k_finer => k_is)
    (case a_mixed => k_is)
    (case l_mixed => k_is)
    (case c_mixed => k_is)
    (case k_mixed => k_is)
    (case a_w_made_right => k_is)
    (case l_w_made_right => k_is)
    (case c_w_made_right => k_is)
    (case k_w_made_right => k_is)
    (case a_w_number => k_is)
    (case l_w_number => k_is)
    (case c_w_number => k_is)
    (case k_w_number => k_is)
    (case a_told_kink => k_is)
    (case l_told_kink => k_is)
    (case c_told_kink => k_is)
    (case k_told_kink => k_is)
    (case a_Block_init => k_is)
    (case l_Block_init => k_is)
    (case c_Block_init => k_is)
    (case k_Block_init => k_is)
    (case i_Block_init => k_is)
    (case mk_Block => k_is)
    (case kc_Block => k_is)
    (case a_Block_enter => k_is)
    (case l_Block_enter => k_is)
    (case c_Block_enter => k_is)
    (case k_Block_enter => k_is)
    (case i_Block_enter => k_is)
    (case a_Block_exit => k_is)
    (case l_Block_exit => k_is)
    (case c_Block_exit => k_is)
    (case k_Block_exit => k_is)
    (case i_Block_exit => k_is)
    (case a_Live_within => k_is)
    (case l_Live_within => k_is)
    (case c_Live_within => k_is)
    (case k_Live_within => k_is)
    (case i_Live_within => k_is)
    (case a_law => k_is)
    (case l_law => k_is)
    (case c_law => k_is)
    (case k_law => k_is)
    (case is1_Rule => k_is)
    (case is2_Rule => k_is)
    (case is3_Rule => k_is)
    (case is4_Rule => k_is)
    (case is5_Rule => kit_is)
    (case ot0_Rule => kit_is)
    (case ot1_Rule => kit_is)
    (case ot2_Rule => kit_is)
    (case ot3_Rule => kit_is)
    (case ot4_Rule => kit_is)
    (case ot5_Rule => kit_is)
    (case nf_Rule => k_is)
    (case om_Rule => k_is)
    (case on_Rule => k_is)
    (case sf_Rule => k_is)
    (case a_DIGITS => k_is)
    (case a_KINDS => k_is)
    (case l_KINDS => k_is)
    (case a_LETTERS => k_is)
    (case a_MOST_DIGITS => k_is)
    (case a_NOUGHT => k_is)
    (case l_NOUGHT => k_is)
    (case a_ONE => k_is)
    (case l_ONE => k_is)
    (case z_abs => k_is)
    (case z_all => k_is)
    (case z_any => k_is)
    (case z_bool => k_is)
    (case z_enumerate => k_is)
    (case z_int => k_is)
    (case z_isinstance => k_is)
    (case z_len => k_is)
    (case z_list => k_is)
    (case z_max => k_is)
    (case z_min => k_is)
    (case z_range => k_is)
    (case z_set => k_is)
    (case z_sorted => k_is)
    (case z_str => k_is)
    (case z_tuple => k_is)
    (case z_zip => k_is)
    (case cd9 => rfl)
    (case lc9 => k_is)
    (case h9 => rfl)
    (case b9 => first | rfl | decide +kernel)
    (case n9 => decide)
    (case t9 => kernel_rfl)
    (case t_Rule_init => k_is)
    (case td_Rule_init => rfl)
    (case v_Rule_init => exact ⟨[.ref _, .ref _], (.cons rfl (.cons rfl .nil)), fun _ => (.cons (.tup (.inr ⟨_, #[], _, (by k_is), rfl, rfl, by decide, .nil⟩) .nil) (.cons (.tup (.inr ⟨_, #[], _, (by k_is), rfl, rfl, by decide, .nil⟩) .nil) .nil))⟩)
    (case t_plus => k_is)
    (case td_plus => rfl)
    (case v_plus => exact ⟨[.int _], (.cons ⟨_, rfl⟩ .nil), fun _ => (.cons (.int _) .nil)⟩)
    (case v_KINDS => exact ⟨by decide, [.str "0", .str "1", .str "2", .str "3", .str "4", .str "5", .str "6"], .cons ⟨_, rfl⟩ (.cons ⟨_, rfl⟩ (.cons ⟨_, rfl⟩ (.cons ⟨_, rfl⟩ (.cons ⟨_, rfl⟩ (.cons ⟨_, rfl⟩ (.cons ⟨_, rfl⟩ (.nil))))))), fun _ => .cons (.str _) (.cons (.str _) (.cons (.str _) (.cons (.str _) (.cons (.str _) (.cons (.str _) (.cons (.str _) (.nil)))))))⟩)
    (case v_NOUGHT => exact ⟨by decide, [.int (0), .int (1)], .cons ⟨_, rfl⟩ (.cons ⟨_, rfl⟩ (.nil)), fun _ => .cons (.int _) (.cons (.int _) (.nil))⟩)
    (case v_ONE => exact ⟨by decide, [.int (1), .int (1)], .cons ⟨_, rfl⟩ (.cons ⟨_, rfl⟩ (.nil)), fun _ => .cons (.int _) (.cons (.int _) (.nil))⟩)
end
theorem Bk.T2 : ∀ w os, Bk.T1.1 w os := by
  intro w os
  unfold Bk.T1
  show @Eq (Option (List (Option Obj))) _ _
  kernel_rfl
theorem PySem.Challenge.cw_bendkinds_k12_rules_by_names_holds : PySem.Challenge.rw_bendkinds_k12_rules_by_names.Holds :=
  Bk.T1.2 Bk.T2
