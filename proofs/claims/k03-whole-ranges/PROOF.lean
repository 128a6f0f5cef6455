import PyProof.Rows.All
import Wide.All
import OpenK.AllK
import Wide.FinOn
import HandS.ForMost
import HandS.Flow
import HandS.Walk
import HandS.Deep
import HandS.TupLe
import HandS.TupAny
import HandS.IsInst
import HandS.Style
import HandS.Conv
import HandS.Zip
import HandS.Wide
import KE.GoesEnum
import PyProof.WalksMore
import PyProof.WalkInts
import KE.SortData
import HandS.TupSets
import KE.KDictDisplayH
import KE.KDictSum
import KE.KDictZip
import PySem.Challenge.RW_newestfit_k03_whole_ranges_of_one_anothe
set_option Elab.async false
set_option linter.all false
set_option maxRecDepth 100000
namespace NF
open PySem PySem.Spec PyProof.Rows L2

theorem same_tup {K : PySem.W.Frag} {H H' : Hp} {a : Addr} {xs : List V} (e : Same H H') (h : SqT K H a xs) : SqT K H' a xs := by
  rcases h with (h | ⟨o, h⟩) | h
  · exact .inl (.inl (e _ _ h))
  · exact .inl (.inr ⟨o, e _ _ h⟩)
  · exact .inr h
theorem same_upd {H : Hp} {p : Addr} {o : HO} (h : H p = none) : Same H (upd H p o) := fun b x e => by
  rw [upd_ne (ne_of_none e h)]
  exact e
/-- from the readable part R of H to R' of H': nothing that stood is changed, what is newly readable is new -/
structure Grow (R H R' H' : Hp) : Prop where
  ext : Same H H'
  sub : Same R R'
  inn : Same R' H'
  new : ∀ a o, R' a = some o → R a = some o ∨ H a = none
theorem Grow.refl {R H : Hp} (h : Same R H) : Grow R H R H := ⟨Same.refl _, Same.refl _, h, fun _ _ e => .inl e⟩
theorem Grow.trans {R H R1 H1 R2 H2 : Hp} (a : Grow R H R1 H1) (b : Grow R1 H1 R2 H2) : Grow R H R2 H2 :=
  ⟨a.ext.trans b.ext, a.sub.trans b.sub, b.inn, fun c o e => by
    rcases b.new c o e with q | q
    · exact a.new c o q
    · exact .inr (a.ext.free q)⟩
/-- a new object, to be read -/
theorem Grow.add {R H : Hp} {p : Addr} {o : HO} (h : Same R H) (hp : H p = none) : Grow R H (upd R p o) (upd H p o) := by
  refine ⟨same_upd hp, same_upd (h.free hp), fun c u e => ?_, fun c u e => ?_⟩
  · by_cases hc : c = p
    · subst hc
      rw [upd_same] at e ⊢
      exact e
    · rw [upd_ne hc] at e ⊢
      exact h c u e
  · by_cases hc : c = p
    · subst hc
      exact .inr hp
    · rw [upd_ne hc] at e
      exact .inl e
/-- a new object that isn't read -/
theorem Grow.hide {R H : Hp} {p : Addr} {o : HO} (h : Same R H) (hp : H p = none) : Grow R H R (upd H p o) :=
  ⟨same_upd hp, Same.refl _, h.trans (same_upd hp), fun _ _ e => .inl e⟩
/-- what isn't read and stood stays so -/
theorem Grow.off {R H R' H' : Hp} (g : Grow R H R' H') {a : Addr} {o : HO} (hr : R a = none) (hh : H a = some o) : R' a = none ∧ H' a = some o := by
  refine ⟨?_, g.ext _ _ hh⟩
  cases e : R' a with
  | none => rfl
  | some u =>
    rcases g.new a u e with q | q
    · rw [hr] at q; cases q
    · rw [hh] at q; cases q
/-- two readable parts in one -/
def join (R S : Hp) : Hp := fun a => match R a with
  | some o => some o
  | none => S a
theorem join_left {R S : Hp} {a : Addr} {o : HO} (h : R a = some o) : join R S a = some o := by unfold join; rw [h]
theorem join_right {R S : Hp} {a : Addr} (h : R a = none) : join R S a = S a := by unfold join; rw [h]
/-- the same growth seen from more -/
theorem Grow.wide {R R1 H R' H' : Hp} (g : Grow R H R' H') (s : Same R R1) (h : Same R1 H) : Grow R1 H (join R1 R') H' ∧ Same R' (join R1 R') := by
  refine ⟨⟨g.ext, fun a o e => join_left e, fun a o e => ?_, fun a o e => ?_⟩, fun a o e => ?_⟩
  · cases q : R1 a with
    | some u =>
      rw [join_left q] at e
      cases e
      exact g.ext _ _ (h _ _ q)
    | none =>
      rw [join_right q] at e
      exact g.inn _ _ e
  · cases q : R1 a with
    | some u =>
      rw [join_left q] at e
      exact .inl e
    | none =>
      rw [join_right q] at e
      rcases g.new a o e with z | z
      · rw [s _ _ z] at q; cases q
      · exact .inr z
  · rcases g.new a o e with z | z
    · exact join_left (s _ _ z)
    · have q : R1 a = none := h.free z
      rw [join_right q]
      exact e

mutual
inductive Dv (K : PySem.W.Frag) (H : Hp) : V → PyData → Prop
  | non : Dv K H .non .none
  | bl (b : Bool) : Dv K H (.bl b) (.bool b)
  | int (i : Int) : Dv K H (.int i) (.int i)
  | str (x : Str) : Dv K H (.str x) (.str x)
  | lst {a : Addr} {xs : List V} {ds : List PyData} : H a = some (.lst xs) → DvAll K H xs ds → Dv K H (.ref a) (.list ds)
  | tup {a : Addr} {xs : List V} {ds : List PyData} : SqT K H a xs → DvAll K H xs ds → Dv K H (.ref a) (.tuple ds)
inductive DvAll (K : PySem.W.Frag) (H : Hp) : List V → List PyData → Prop
  | nil : DvAll K H [] []
  | cons {v : V} {vs : List V} {d : PyData} {ds : List PyData} : Dv K H v d → DvAll K H vs ds → DvAll K H (v :: vs) (d :: ds)
end
section
variable {K : PySem.W.Frag} {H H' : Hp}
mutual
theorem dvMono (s : Same H H') : ∀ (d : PyData) (v : V), Dv K H v d → Dv K H' v d
  | .none, _, h => by cases h; exact .non
  | .bool _, _, h => by cases h; exact .bl _
  | .int _, _, h => by cases h; exact .int _
  | .str _, _, h => by cases h; exact .str _
  | .list ds, _, h => by
    cases h with
    | lst a b => exact .lst (s _ _ a) (dvAllMono s ds _ b)
  | .tuple ds, _, h => by
    cases h with
    | tup a b => exact .tup (same_tup s a) (dvAllMono s ds _ b)
  | .dict _, _, h => by cases h
theorem dvAllMono (s : Same H H') : ∀ (ds : List PyData) (vs : List V), DvAll K H vs ds → DvAll K H' vs ds
  | [], _, h => by cases h; exact .nil
  | d :: ds, _, h => by
    cases h with
    | cons a b => exact .cons (dvMono s d _ a) (dvAllMono s ds _ b)
end
mutual
theorem dvDp : ∀ (d : PyData) (v : V), Dv K H v d → Dp K H v d
  | .none, _, h => by cases h; exact .non
  | .bool _, _, h => by cases h; exact .bl _
  | .int _, _, h => by cases h; exact .int _
  | .str _, _, h => by cases h; exact .str _
  | .list ds, _, h => by
    cases h with
    | lst a b => exact .lst (SqL.of a) (dvDpAll ds _ b)
  | .tuple ds, _, h => by
    cases h with
    | tup a b => exact .tup a (dvDpAll ds _ b)
  | .dict _, _, h => by cases h
theorem dvDpAll : ∀ (ds : List PyData) (vs : List V), DvAll K H vs ds → DpAll K H vs ds
  | [], _, h => by cases h; exact .nil
  | d :: ds, _, h => by
    cases h with
    | cons a b => exact .cons (dvDp d _ a) (dvDpAll ds _ b)
end
theorem Dv.dp {v : V} {d : PyData} (h : Dv K H v d) : Dp K H v d := dvDp d v h
theorem Dv_mono {v : V} {d : PyData} (s : Same H H') (h : Dv K H v d) : Dv K H' v d := dvMono s d v h
theorem DvAll_mono {vs : List V} {ds : List PyData} (s : Same H H') (h : DvAll K H vs ds) : DvAll K H' vs ds := dvAllMono s ds vs h
theorem DvAll.len : ∀ {vs : List V} {ds : List PyData}, DvAll K H vs ds → vs.length = ds.length
  | _, _, .nil => rfl
  | _, _, .cons _ t => by rw [List.length_cons, List.length_cons, DvAll.len t]
theorem DvAll.app : ∀ {vs ws : List V} {ds es : List PyData}, DvAll K H vs ds → DvAll K H ws es → DvAll K H (vs ++ ws) (ds ++ es)
  | _, _, _, _, .nil, s => s
  | _, _, _, _, .cons r t, s => .cons r (DvAll.app t s)
theorem DvAll.at : ∀ {vs : List V} {ds : List PyData} {i : Nat} {v : V}, DvAll K H vs ds → vs[i]? = some v → ∃ d, ds[i]? = some d ∧ Dv K H v d
  | _, _, _, _, .nil, e => by simp at e
  | _, _, 0, _, .cons r _, e => by simp at e; subst e; exact ⟨_, rfl, r⟩
  | _, _, i + 1, v, .cons _ t, e => by
    obtain ⟨d, h1, h2⟩ := DvAll.at (i := i) (v := v) t (by simpa using e)
    exact ⟨d, by simpa using h1, h2⟩
theorem DvAll.get : ∀ {vs : List V} {ds : List PyData} {i : Nat} {d : PyData}, DvAll K H vs ds → ds[i]? = some d → ∃ v, vs[i]? = some v ∧ Dv K H v d
  | _, _, _, _, .nil, e => by simp at e
  | _, _, 0, _, .cons r _, e => by simp at e; subst e; exact ⟨_, rfl, r⟩
  | _, _, i + 1, d, .cons _ t, e => by
    obtain ⟨v, h1, h2⟩ := DvAll.get (i := i) (d := d) t (by simpa using e)
    exact ⟨v, by simpa using h1, h2⟩
theorem DvAll.take : ∀ {vs : List V} {ds : List PyData} (n : Nat), DvAll K H vs ds → DvAll K H (vs.take n) (ds.take n)
  | _, _, 0, _ => by rw [List.take_zero, List.take_zero]; exact .nil
  | _, _, _ + 1, .nil => .nil
  | _, _, n + 1, .cons r t => .cons r (DvAll.take n t)
theorem DvAll.drop : ∀ {vs : List V} {ds : List PyData} (n : Nat), DvAll K H vs ds → DvAll K H (vs.drop n) (ds.drop n)
  | _, _, 0, r => r
  | _, _, _ + 1, .nil => .nil
  | _, _, n + 1, .cons _ t => DvAll.drop n t
theorem DvAll.set {x : V} {d : PyData} (r : Dv K H x d) : ∀ {vs : List V} {ds : List PyData} (i : Nat), DvAll K H vs ds → DvAll K H (vs.set i x) (ds.set i d)
  | _, _, _, .nil => .nil
  | _, _, 0, .cons _ t => .cons r t
  | _, _, i + 1, .cons q t => .cons q (DvAll.set r i t)
theorem DvAll.one {v : V} {d : PyData} (h : Dv K H v d) : DvAll K H [v] [d] := .cons h .nil
theorem DvAll.ints : ∀ {ns : List Int} {vs : List V}, DvAll K H vs (ns.map PyData.int) → vs = ns.map V.int
  | [], _, h => by cases h; rfl
  | n :: ns, _, h => by
    cases h with
    | cons a b =>
      cases a
      rw [DvAll.ints b]
      rfl
theorem DvAll.ofInts : ∀ (ns : List Int), DvAll K H (ns.map V.int) (ns.map PyData.int)
  | [] => .nil
  | _ :: ns => .cons (.int _) (DvAll.ofInts ns)
theorem DvAll.bools : ∀ {bs : List Bool} {vs : List V}, DvAll K H vs (bs.map PyData.bool) → vs = bs.map V.bl
  | [], _, h => by cases h; rfl
  | n :: ns, _, h => by
    cases h with
    | cons a b =>
      cases a
      rw [DvAll.bools b]
      rfl
end

structure PD (X : Cx) (e : Expr) (σ : L2.St) (R : Hp) (d : PyData) : Prop where
  run : ∀ (pins : List (Addr × Obj)) (s : Shared) (H : Hp) (Q : VK), Inv X pins σ H s → Same R H → (∀ v H' R', Grow R H R' H' → Dv X.K R' v d → Q v H') → wpAny (model X.prog X.w) X.A (eval e X.env) (EP X pins σ Q) X.xe s
structure PTD (X : Cx) (e : Expr) (σ : L2.St) (R : Hp) (b : Bool) : Prop where
  run : ∀ (pins : List (Addr × Obj)) (s : Shared) (H : Hp) (Q : Bool → Hp → Prop), Inv X pins σ H s → Same R H → (∀ H' R', Grow R H R' H' → Q b H') → wpAny (model X.prog X.w) X.A (isTrue e X.env (eval e X.env)) (TP X pins σ Q) X.xe s
structure PDs (X : Cx) (es : List Expr) (σ : L2.St) (R : Hp) (ds : List PyData) : Prop where
  run : ∀ (pos : Pos) (pins : List (Addr × Obj)) (s : Shared) (H : Hp) (Q : List V → Hp → Prop), Inv X pins σ H s → Same R H → (∀ vs H' R', Grow R H R' H' → DvAll X.K R' vs ds → Q vs H') → wpAny (model X.prog X.w) X.A (spliced (backTo pos (starEach es X.env))) (AP X pins σ Q) X.xe s
def EvD (K : PySem.W.Frag) (t : TE) (σ : L2.St) (R : Hp) (d : PyData) : Prop := ∀ (H : Hp) (Q : VK), Same R H → (∀ v H' R', Grow R H R' H' → Dv K R' v d → Q v H') → t σ H Q
def tPD (X : Cx) (e : Expr) : TE := fun σ H Q => ∃ R d, Same R H ∧ PD X e σ R d ∧ ∀ v H' R', Grow R H R' H' → Dv X.K R' v d → Q v H'
def tPT (X : Cx) (e : Expr) : TT := fun σ H Q => ∃ R b, Same R H ∧ PTD X e σ R b ∧ ∀ H' R', Grow R H R' H' → Q b H'
def tPA (X : Cx) (es : List Expr) : TA := fun σ H Q => ∃ R ds, Same R H ∧ PDs X es σ R ds ∧ ∀ vs H' R', Grow R H R' H' → DvAll X.K R' vs ds → Q vs H'
section
variable {X : Cx} {e a b : Expr} {es : List Expr} {σ : L2.St} {R R1 : Hp} {d d1 d2 : PyData} {d' : Bool} {ds : List PyData} {pos : Pos}
theorem pe_pd : PE X e (tPD X e) := ⟨fun pins s σ H Q I h => by
  obtain ⟨R, d, sb, p, k⟩ := h
  exact p.run pins s H Q I sb k⟩
theorem pt_pd : PT X e (tPT X e) := ⟨fun pins s σ H Q I h => by
  obtain ⟨R, d, sb, p, k⟩ := h
  exact p.run pins s H Q I sb k⟩
theorem pa_pd : PA X es (tPA X es) := ⟨fun pos pins s σ H Q I h => by
  obtain ⟨R, d, sb, p, k⟩ := h
  exact p.run pos pins s H Q I sb k⟩
theorem PD.of {t : TE} (h : PE X e t) (ev : EvD X.K t σ R d) : PD X e σ R d := ⟨fun pins s H Q I sb k => h.run pins s σ H Q I (ev H Q sb k)⟩
theorem PTD.of {t : TT} {b : Bool} (h : PT X e t) (ev : ∀ (H : Hp) (Q : Bool → Hp → Prop), Same R H → (∀ H' R', Grow R H R' H' → Q b H') → t σ H Q) : PTD X e σ R b := ⟨fun pins s H Q I sb k => h.run pins s σ H Q I (ev H Q sb k)⟩
theorem PD.mono (h : PD X e σ R d) (s : Same R R1) : PD X e σ R1 d := ⟨fun pins sh H Q I sb k => h.run pins sh H Q I (s.trans sb) fun v H' R' g dv =>
  let ⟨g1, s1⟩ := g.wide s sb
  k v H' _ g1 (Dv_mono s1 dv)⟩
theorem PTD.mono {b : Bool} (h : PTD X e σ R b) (s : Same R R1) : PTD X e σ R1 b := ⟨fun pins sh H Q I sb k => h.run pins sh H Q I (s.trans sb) fun H' R' g => k H' _ (g.wide s sb).1⟩
theorem PDs.mono (h : PDs X es σ R ds) (s : Same R R1) : PDs X es σ R1 ds := ⟨fun pos pins sh H Q I sb k => h.run pos pins sh H Q I (s.trans sb) fun v H' R' g dv =>
  let ⟨g1, s1⟩ := g.wide s sb
  k v H' _ g1 (DvAll_mono s1 dv)⟩
/-- the same data, told otherwise -/
theorem PD.eq (h : PD X e σ R d) (q : d = d1) : PD X e σ R d1 := q ▸ h
theorem PTD.eq {b c : Bool} (h : PTD X e σ R b) (q : b = c) : PTD X e σ R c := q ▸ h
theorem PD.ev (h : PD X e σ R d) : EvD X.K (tPD X e) σ R d := fun _ _ sb k => ⟨R, d, sb, h, k⟩

theorem pd_var (i : Nat) {x : Str} {v : V} (hσ : σ[i]? = some (some v)) (hd : Dv X.K R v d) (hN : X.N[i]? = some x := by rfl) (hv : Vis X.env.scope x := by first | exact Or.inl rfl | exact Or.inr (Or.inl rfl) | exact Or.inr (Or.inr rfl))
    (hdb : (x == ("__debug__" : Str)) = false := by decide) (hcd : (x == ("__classdict__" : Str)) = false := by decide) : PD X (.Name x pos) σ R d :=
  .of (pe_var hN hv hdb hcd) fun H Q sb k => ⟨v, hσ, k v H R (Grow.refl sb) hd⟩
theorem pd_int {i j} : PD X (.Constant (.int i) j pos) σ R (.int i) := .of pe_int fun H Q sb k => k _ H R (Grow.refl sb) (.int _)
theorem pd_bool {b j} : PD X (.Constant (.bool b) j pos) σ R (.bool b) := .of pe_bl fun H Q sb k => k _ H R (Grow.refl sb) (.bl _)
theorem pd_non {j} : PD X (.Constant .none j pos) σ R .none := .of pe_non fun H Q sb k => k _ H R (Grow.refl sb) .non
theorem pd_neg {i : Int} (h : PD X e σ R (.int i)) : PD X (.UnaryOp .USub e pos) σ R (.int (-i)) :=
  .of (pe_un un_neg pe_pd) fun H Q sb k => ⟨R, _, sb, h, fun v H' R' g dv => by
    cases dv
    exact ⟨i, rfl, k _ H' R' g (.int _)⟩⟩
theorem pd_glob {x : Str} {v : V} {u : Value} (hm : X.mg x = some u) (r : RelV v u) (hd : Dv X.K R v d) (hg : Gl X x := by rfl) (hdb : (x == ("__debug__" : Str)) = false := by decide) : PD X (.Name x pos) σ R d :=
  .of (pe_glob hg hm r hdb) fun H Q sb k => k v H R (Grow.refl sb) hd

theorem pds_nil : PDs X [] σ R [] := ⟨fun pos pins s H Q I sb k => pa_nil.run pos pins s σ H Q I (k [] H R (Grow.refl sb) .nil)⟩
theorem pds_cons (ha : PD X e σ R d) (hr : PDs X es σ R ds) (hs : starEach (e :: es) X.env = (false, eval e X.env) :: starEach es X.env := by rfl) : PDs X (e :: es) σ R (d :: ds) :=
  ⟨fun pos pins s H Q I sb k => (pa_cons pe_pd pa_pd hs).run pos pins s σ H Q I ⟨R, d, sb, ha, fun v H1 R1 g1 dv =>
    ⟨R1, ds, g1.inn, hr.mono g1.sub, fun vs H2 R2 g2 dvs => k _ H2 R2 (g1.trans g2) (.cons (Dv_mono g2.sub dv) dvs)⟩⟩⟩
theorem pd_tup {x1} (h : PDs X es σ R ds) (hl : ds.length ≤ 1000 := by exact Nat.le_of_ble_eq_true rfl) : PD X (.Tuple es x1 pos) σ R (.tuple ds) :=
  .of (pe_tup pa_pd) fun H Q sb k => ⟨R, ds, sb, h, fun vs H' R' g dvs => ⟨by
    rw [DvAll.len dvs]
    exact Nat.le_of_lt (small1000 hl), fun p hp => k _ _ _ (g.trans (Grow.add g.inn hp)) (.tup (SqT.of upd_same) (DvAll_mono (same_upd (g.inn.free hp)) dvs))⟩⟩
theorem pd_lst (h : PDs X es σ R ds) (hl : ds.length ≤ 1000 := by exact Nat.le_of_ble_eq_true rfl) : PD X (.List es pos) σ R (.list ds) :=
  .of (pe_lst pa_pd) fun H Q sb k => ⟨R, ds, sb, h, fun vs H' R' g dvs => ⟨by
    rw [DvAll.len dvs]
    exact Nat.le_of_lt (small1000 hl), fun p hp => k _ _ _ (g.trans (Grow.add g.inn hp)) (.lst upd_same (DvAll_mono (same_upd (g.inn.free hp)) dvs))⟩⟩

theorem pd_two {w : Expr} {r : R2} (pe : ∀ ta tb, PE X a ta → PE X b tb → PE X w (tOp r ta tb)) (ha : PD X a σ R d1) (hb : PD X b σ R d2)
    (k : ∀ (x y : V) (R1 H1 : Hp) (Q : VK), Same R R1 → Same R1 H1 → Dv X.K R1 x d1 → Dv X.K R1 y d2 → (∀ v H' R', Grow R1 H1 R' H' → Dv X.K R' v d → Q v H') → r x y H1 Q) : PD X w σ R d :=
  .of (pe _ _ pe_pd pe_pd) fun H Q sb q => ⟨R, d1, sb, ha, fun v H1 R1 g1 dv => ⟨R1, d2, g1.inn, hb.mono g1.sub, fun u H2 R2 g2 du =>
    k v u R2 H2 Q (g1.sub.trans g2.sub) g2.inn (Dv_mono g2.sub dv) du fun z H' R' g dz => q z H' R' ((g1.trans g2).trans g) dz⟩⟩
/-- a comparison of two, its answer flat -/
theorem pd_cmp {op : CmpOp} {r : R2} {c : Bool} (ho : OpR X (compareOp op) r) (ha : PD X a σ R d1) (hb : PD X b σ R d2)
    (k : ∀ (x y : V) (H1 : Hp) (Q : VK), Dv X.K H1 x d1 → Dv X.K H1 y d2 → Q (.bl c) H1 → r x y H1 Q) (hm : behindInMarks op b = false := by exact nomark _) : PD X (.Compare a [op] [b] pos) σ R (.bool c) :=
  pd_two (fun _ _ p q => pe_cmpR ho p q hm) ha hb fun x y R1 H1 Q _ s1 h1 h2 q => k x y H1 Q (Dv_mono s1 h1) (Dv_mono s1 h2) (q _ H1 R1 (Grow.refl s1) (.bl _))
theorem pd_lt {i j : Int} (ha : PD X a σ R (.int i)) (hb : PD X b σ R (.int j)) : PD X (.Compare a [.Lt] [b] pos) σ R (.bool (decide (i < j))) :=
  pd_cmp op_lt ha hb fun x y H Q h1 h2 q => by cases h1; cases h2; exact ⟨i, j, rfl, rfl, q⟩
theorem pd_le {i j : Int} (ha : PD X a σ R (.int i)) (hb : PD X b σ R (.int j)) : PD X (.Compare a [.LtE] [b] pos) σ R (.bool (decide (i ≤ j))) :=
  pd_cmp op_le ha hb fun x y H Q h1 h2 q => by cases h1; cases h2; exact ⟨i, j, rfl, rfl, q⟩
theorem pd_ge {i j : Int} (ha : PD X a σ R (.int i)) (hb : PD X b σ R (.int j)) : PD X (.Compare a [.GtE] [b] pos) σ R (.bool (decide (j ≤ i))) :=
  pd_cmp op_ge ha hb fun x y H Q h1 h2 q => by cases h1; cases h2; exact ⟨i, j, rfl, rfl, q⟩
theorem pd_gt {i j : Int} (ha : PD X a σ R (.int i)) (hb : PD X b σ R (.int j)) : PD X (.Compare a [.Gt] [b] pos) σ R (.bool (decide (j < i))) :=
  pd_cmp op_gt ha hb fun x y H Q h1 h2 q => by cases h1; cases h2; exact ⟨i, j, rfl, rfl, q⟩
theorem pd_chain {op op' : CmpOp} {r r' : R2} {c : Expr} {d3 : PyData} {z1 z2 : Bool} (ho : OpR X (compareOp op) r) (ho' : OpR X (compareOp op') r') (ha : PD X a σ R d1) (hb : PD X b σ R d2) (hc : PD X c σ R d3)
    (k : ∀ (x y : V) (H1 : Hp) (Q : VK), Dv X.K H1 x d1 → Dv X.K H1 y d2 → Q (.bl z1) H1 → r x y H1 Q) (k' : ∀ (x y : V) (H1 : Hp) (Q : VK), Dv X.K H1 x d2 → Dv X.K H1 y d3 → Q (.bl z2) H1 → r' x y H1 Q) (hm : lastMarks [op, op'] [b, c] = false := by with_unfolding_all rfl) :
    PD X (.Compare a [op, op'] [b, c] pos) σ R (.bool (z1 && z2)) :=
  .of (pe_chain ho ho' pe_pd pe_pd pe_pd hm) fun H Q sb q => ⟨R, d1, sb, ha, fun v H1 R1 g1 dv => ⟨R1, d2, g1.inn, hb.mono g1.sub, fun u H2 R2 g2 du =>
    k v u H2 _ (Dv_mono g2.inn (Dv_mono g2.sub dv)) (Dv_mono g2.inn du) ⟨z1, rfl, by
      cases z1 with
      | false => exact q _ H2 R2 (g1.trans g2) (.bl _)
      | true => exact ⟨R2, d3, g2.inn, hc.mono (g1.sub.trans g2.sub), fun w H3 R3 g3 dw => k' u w H3 _ (Dv_mono g3.ext (Dv_mono g2.inn du)) (Dv_mono g3.inn dw) (q _ H3 R3 ((g1.trans g2).trans g3) (.bl _))⟩⟩⟩⟩
/-- tuples of ints -/
def tupI (ns : List Int) : PyData := .tuple (ns.map .int)
theorem Dv.tupI {K : PySem.W.Frag} {H : Hp} {v : V} {ns : List Int} (h : Dv K H v (tupI ns)) : ∃ p, v = .ref p ∧ SqT K H p (ns.map V.int) := by
  cases h with
  | tup s ha => exact ⟨_, rfl, by rw [DvAll.ints ha] at s; exact s⟩
theorem pd_ltT {ns ms : List Int} (hu : X.A.units < cLine) (ha : PD X a σ R (tupI ns)) (hb : PD X b σ R (tupI ms)) : PD X (.Compare a [.Lt] [b] pos) σ R (.bool (HT.lexLt ns ms)) :=
  pd_cmp (op_ltT hu) ha hb fun x y H Q h1 h2 q => by
    obtain ⟨p, rfl, s1⟩ := Dv.tupI h1
    obtain ⟨p2, rfl, s2⟩ := Dv.tupI h2
    exact ⟨p, p2, ns, ms, rfl, rfl, s1, s2, q⟩
theorem lexAt_shift (e r : Nat → Bool) (z : Bool) : ∀ (k i : Nat), Ob.lexAt e r z (i + 1) k = Ob.lexAt (fun j => e (j + 1)) (fun j => r (j + 1)) z i k
  | 0, _ => rfl
  | k + 1, i => by
    rw [Ob.lexAt_succ, Ob.lexAt_succ, lexAt_shift e r z k (i + 1)]
theorem lexAt_le : ∀ ns ms : List Int, Ob.lexAt (fun j => decide (ns.getD j 0 = ms.getD j 0)) (fun j => decide (ns.getD j 0 ≤ ms.getD j 0)) (decide (ns.length ≤ ms.length)) 0 (min ns.length ms.length) = lexLeI ns ms
  | [], ms => by
    rw [List.length_nil, Nat.zero_min, Ob.lexAt_zero]
    exact decide_eq_true (Nat.zero_le _)
  | x :: xs, [] => by
    rw [List.length_nil, Nat.min_zero, Ob.lexAt_zero]
    exact decide_eq_false (by rw [List.length_cons]; omega)
  | x :: xs, y :: ys => by
    have e : min (x :: xs).length (y :: ys).length = min xs.length ys.length + 1 := by rw [List.length_cons, List.length_cons]; omega
    have e2 : decide ((x :: xs).length ≤ (y :: ys).length) = decide (xs.length ≤ ys.length) := by
      rw [List.length_cons, List.length_cons]
      exact decide_eq_decide.mpr (by omega)
    rw [e, e2, Ob.lexAt_succ, lexAt_shift]
    show (if decide (x = y) = true then _ else decide (x ≤ y)) = if x = y then lexLeI xs ys else decide (x ≤ y)
    by_cases h : x = y
    · rw [if_pos (decide_eq_true h), if_pos h]
      exact lexAt_le xs ys
    · rw [if_neg (by rw [decide_eq_false h]; exact Bool.false_ne_true), if_neg h]
theorem pd_leT {ns ms : List Int} (hu : X.A.units < cLine) (ha : PD X a σ R (tupI ns)) (hb : PD X b σ R (tupI ms)) : PD X (.Compare a [.LtE] [b] pos) σ R (.bool (lexLeI ns ms)) :=
  pd_cmp (op_leT hu) ha hb fun x y H Q h1 h2 q => by
    obtain ⟨p, rfl, s1⟩ := Dv.tupI h1
    obtain ⟨p2, rfl, s2⟩ := Dv.tupI h2
    exact ⟨p, p2, ns, ms, rfl, rfl, s1, s2, by rw [lexAt_le]; exact q⟩
theorem pd_eq (hu : X.A.units + 64 < cLine) (ha : PD X a σ R d1) (hb : PD X b σ R d2) (s1 : SeqAt.shaped d1 = true) (s2 : SeqAt.shaped d2 = true) : PD X (.Compare a [.Eq] [b] pos) σ R (.bool (PyData.eqv d1 d2)) :=
  pd_cmp (op_eqD hu) ha hb fun x y H Q h1 h2 q => ⟨_, _, h1.dp, h2.dp, s1, s2, q⟩
theorem pd_ne (hu : X.A.units + 64 < cLine) (ha : PD X a σ R d1) (hb : PD X b σ R d2) (s1 : SeqAt.shaped d1 = true) (s2 : SeqAt.shaped d2 = true) : PD X (.Compare a [.NotEq] [b] pos) σ R (.bool (!PyData.eqv d1 d2)) :=
  pd_cmp (op_neD hu) ha hb fun x y H Q h1 h2 q => ⟨_, _, h1.dp, h2.dp, s1, s2, q⟩
def isNon : PyData → Bool
  | .none => true
  | _ => false
theorem Dv.isNon {K : PySem.W.Frag} {H : Hp} {v : V} {d : PyData} (h : Dv K H v d) : decide (v = V.non) = NF.isNon d := by
  cases h <;> rfl
theorem pd_isN {j pos'} (ha : PD X a σ R d) : PD X (.Compare a [.Is] [.Constant .none j pos'] pos) σ R (.bool (isNon d)) :=
  .of (pe_cmpR op_isN pe_pd pe_non (nomark _)) fun H Q sb k => ⟨R, d, sb, ha, fun v H1 R1 g dv => ⟨rfl, by
    rw [Dv.isNon dv]
    exact k _ H1 R1 g (.bl _)⟩⟩
theorem pd_notN {j pos'} (ha : PD X a σ R d) : PD X (.Compare a [.IsNot] [.Constant .none j pos'] pos) σ R (.bool (!isNon d)) :=
  .of (pe_cmpR op_notN pe_pd pe_non (nomark _)) fun H Q sb k => ⟨R, d, sb, ha, fun v H1 R1 g dv => ⟨rfl, by
    rw [Dv.isNon dv]
    exact k _ H1 R1 g (.bl _)⟩⟩
theorem ptd (h : PD X e σ R (.bool d')) (he : ∀ whole, isTrue e X.env whole = (do let v ← whole; standAt e.pos; holding [v] (truthy v)) := by intro _; rfl) : PTD X e σ R d' :=
  .of (pt_val pe_pd he) fun H Q sb k => ⟨R, _, sb, h, fun v H' R' g dv => by
    cases dv
    exact ⟨_, rfl, k H' R' g⟩⟩
/-- a test whatever its whole is -/
structure PWD (X : Cx) (e : Expr) (σ : L2.St) (R : Hp) (b : Bool) : Prop where
  run : ∀ (whole : Sem Value) (pins : List (Addr × Obj)) (s : Shared) (H : Hp) (Q : Bool → Hp → Prop), Inv X pins σ H s → Same R H → (∀ H' R', Grow R H R' H' → Q b H') → wpAny (model X.prog X.w) X.A (isTrue e X.env whole) (TP X pins σ Q) X.xe s
theorem PWD.pt {b : Bool} (h : PWD X e σ R b) : PTD X e σ R b := ⟨h.run _⟩
theorem PWD.mono {b : Bool} (h : PWD X e σ R b) (s : Same R R1) : PWD X e σ R1 b := ⟨fun wh pins sh H Q I sb k => h.run wh pins sh H Q I (s.trans sb) fun H' R' g => k H' _ (g.wide s sb).1⟩
def tPW (X : Cx) (e : Expr) : TT := fun σ H Q => ∃ R b, Same R H ∧ PWD X e σ R b ∧ ∀ H' R', Grow R H R' H' → Q b H'
theorem pw_pd : PW X e (tPW X e) := ⟨fun wh pins s σ H Q I h => by
  obtain ⟨R, d, sb, p, k⟩ := h
  exact p.run wh pins s H Q I sb k⟩
theorem PWD.of {t : TT} {b : Bool} (h : PW X e t) (ev : ∀ (H : Hp) (Q : Bool → Hp → Prop), Same R H → (∀ H' R', Grow R H R' H' → Q b H') → t σ H Q) : PWD X e σ R b := ⟨fun wh pins s H Q I sb k => h.run wh pins s σ H Q I (ev H Q sb k)⟩
theorem pwd_and1 {x : Bool} (ha : PTD X a σ R x) : PWD X (.BoolOp .And [a] pos) σ R x := .of (pw_and1 pt_pd) fun H Q sb k => ⟨R, x, sb, ha, k⟩
theorem pwd_or1 {x : Bool} (ha : PTD X a σ R x) : PWD X (.BoolOp .Or [a] pos) σ R x := .of (pw_or1 pt_pd) fun H Q sb k => ⟨R, x, sb, ha, k⟩
theorem pwd_and {rest : List Expr} {x y : Bool} (ha : PTD X a σ R x) (hb : x = true → PWD X (.BoolOp .And (b :: rest) pos) σ R y) : PWD X (.BoolOp .And (a :: b :: rest) pos) σ R (x && y) :=
  .of (pw_and pt_pd pw_pd) fun H Q sb k => ⟨R, x, sb, ha, fun H1 R1 g => by
    cases x with
    | false => exact k H1 R1 g
    | true => exact ⟨R1, y, g.inn, (hb rfl).mono g.sub, fun H2 R2 g2 => k H2 R2 (g.trans g2)⟩⟩
theorem pwd_or {rest : List Expr} {x y : Bool} (ha : PTD X a σ R x) (hb : x = false → PWD X (.BoolOp .Or (b :: rest) pos) σ R y) : PWD X (.BoolOp .Or (a :: b :: rest) pos) σ R (x || y) :=
  .of (pw_or pt_pd pw_pd) fun H Q sb k => ⟨R, x, sb, ha, fun H1 R1 g => by
    cases x with
    | true => exact k H1 R1 g
    | false => exact ⟨R1, y, g.inn, (hb rfl).mono g.sub, fun H2 R2 g2 => k H2 R2 (g.trans g2)⟩⟩
theorem ptd_and {rest : List Expr} {x y : Bool} (ha : PTD X a σ R x) (hb : x = true → PWD X (.BoolOp .And (b :: rest) pos) σ R y) : PTD X (.BoolOp .And (a :: b :: rest) pos) σ R (x && y) := (pwd_and ha hb).pt
theorem ptd_or {rest : List Expr} {x y : Bool} (ha : PTD X a σ R x) (hb : x = false → PWD X (.BoolOp .Or (b :: rest) pos) σ R y) : PTD X (.BoolOp .Or (a :: b :: rest) pos) σ R (x || y) := (pwd_or ha hb).pt
theorem ptd_not {x : Bool} (ha : PTD X a σ R x) : PTD X (.UnaryOp .Not a pos) σ R (!x) := .of (pt_not pt_pd) fun H Q sb k => ⟨R, x, sb, ha, k⟩
theorem pd_one {op} (h : PD X a σ R d) : PD X (.BoolOp op [a] pos) σ R d := .of (pe_one pe_pd) fun H Q sb k => ⟨R, d, sb, h, k⟩
theorem pd_and {rest : List Expr} {x y : Bool} (ha : PD X a σ R (.bool x)) (hb : x = true → PD X (.BoolOp .And (b :: rest) pos) σ R (.bool y)) : PD X (.BoolOp .And (a :: b :: rest) pos) σ R (.bool (x && y)) :=
  .of (pe_and pe_pd pe_pd) fun H Q sb k => ⟨R, _, sb, ha, fun v H1 R1 g dv => by
    cases dv
    refine ⟨x, rfl, ?_⟩
    cases x with
    | false => exact k _ H1 R1 g (.bl _)
    | true => exact ⟨R1, _, g.inn, (hb rfl).mono g.sub, fun u H2 R2 g2 du => k u H2 R2 (g.trans g2) du⟩⟩
theorem pd_or {rest : List Expr} {x y : Bool} (ha : PD X a σ R (.bool x)) (hb : x = false → PD X (.BoolOp .Or (b :: rest) pos) σ R (.bool y)) : PD X (.BoolOp .Or (a :: b :: rest) pos) σ R (.bool (x || y)) :=
  .of (pe_or pe_pd pe_pd) fun H Q sb k => ⟨R, _, sb, ha, fun v H1 R1 g dv => by
    cases dv
    refine ⟨x, rfl, ?_⟩
    cases x with
    | true => exact k _ H1 R1 g (.bl _)
    | false => exact ⟨R1, _, g.inn, (hb rfl).mono g.sub, fun u H2 R2 g2 du => k u H2 R2 (g.trans g2) du⟩⟩
theorem pd_not {x : Bool} (ha : PD X a σ R (.bool x)) : PD X (.UnaryOp .Not a pos) σ R (.bool (!x)) :=
  .of (pe_not pe_pd) fun H Q sb k => ⟨R, _, sb, ha, fun v H1 R1 g dv => by
    cases dv
    exact ⟨x, rfl, k _ H1 R1 g (.bl _)⟩⟩
theorem pd_if {c : Expr} {x : Bool} (hc : PTD X c σ R x) (ha : x = true → PD X a σ R d1) (hb : x = false → PD X b σ R d2) : PD X (.IfExp c a b pos) σ R (if x = true then d1 else d2) :=
  .of (pe_ifExp pt_pd pe_pd pe_pd) fun H Q sb k => ⟨R, x, sb, hc, fun H1 R1 g => by
    cases x with
    | true => exact ⟨R1, _, g.inn, (ha rfl).mono g.sub, fun u H2 R2 g2 du => k u H2 R2 (g.trans g2) du⟩
    | false => exact ⟨R1, _, g.inn, (hb rfl).mono g.sub, fun u H2 R2 g2 du => k u H2 R2 (g.trans g2) du⟩⟩
end
end NF

set_option Elab.async false
set_option linter.all false
set_option maxRecDepth 100000
namespace NF
open PySem PySem.Spec PyProof.Rows L2

/-- the built-ins are the built-ins -/
structure Blt (mg : Str → Option Value) : Prop where
  isi : mg "isinstance" = none
  list : mg "list" = none
  tuple : mg "tuple" = none
  int : mg "int" = none
  bool : mg "bool" = none
  str : mg "str" = none
  len : mg "len" = none
  all : mg "all" = none
  any : mg "any" = none
  min : mg "min" = none
  zip : mg "zip" = none
  enum : mg "enumerate" = none
  sorted : mg "sorted" = none
  set : mg "set" = none
  range : mg "range" = none
  abs : mg "abs" = none

def SeqD (d : PyData) (ds : List PyData) : Prop := d = .list ds ∨ d = .tuple ds
theorem SeqD.l {ds : List PyData} : SeqD (.list ds) ds := .inl rfl
theorem SeqD.t {ds : List PyData} : SeqD (.tuple ds) ds := .inr rfl
section
variable {K : PySem.W.Frag} {H : Hp} {v : V} {d : PyData} {ds : List PyData}
theorem Dv.seq (h : Dv K H v d) (q : SeqD d ds) : ∃ p xs, v = .ref p ∧ (SqL K H p xs ∨ SqT K H p xs) ∧ DvAll K H xs ds := by
  rcases q with rfl | rfl
  · cases h with
    | lst a b => exact ⟨_, _, rfl, .inl (SqL.of a), b⟩
  · cases h with
    | tup a b => exact ⟨_, _, rfl, .inr a, b⟩
theorem Dv.lstE (h : Dv K H v (.list ds)) : ∃ p xs, v = .ref p ∧ H p = some (.lst xs) ∧ DvAll K H xs ds := by
  cases h with
  | lst a b => exact ⟨_, _, rfl, a, b⟩
theorem Dv.tupE (h : Dv K H v (.tuple ds)) : ∃ p xs, v = .ref p ∧ SqT K H p xs ∧ DvAll K H xs ds := by
  cases h with
  | tup a b => exact ⟨_, _, rfl, a, b⟩
theorem Dv.intE {i : Int} (h : Dv K H v (.int i)) : v = .int i := by cases h; rfl
theorem Dv.boolE {i : Bool} (h : Dv K H v (.bool i)) : v = .bl i := by cases h; rfl
theorem Dv.nonE (h : Dv K H v .none) : v = .non := by cases h; rfl
/-- the type of data -/
def tyN : PyData → String
  | .none => "NoneType"
  | .bool _ => "bool"
  | .int _ => "int"
  | .str _ => "str"
  | .list _ => "list"
  | .tuple _ => "tuple"
  | .dict _ => "dict"
theorem Dv.tyX (h : Dv K H v d) : TyX K H v (.type (tyN d)) := by
  cases h with
  | non => exact .base .non
  | bl b => exact .base (.bl b)
  | int i => exact .base (.int i)
  | str x => exact .base (.str x)
  | lst a _ => exact .base (.lst a)
  | tup a _ =>
    rcases a with (a | ⟨o, a⟩) | ⟨o, its, n, l, c, _⟩
    · exact .base (.tup a)
    · exact .fTuple a
    · exact .kTuple l c
theorem Dv.noDict (h : Dv K H v d) : ∀ x, d ≠ .dict x := by cases h <;> (intro x q; cases q)
def dIsInt : PyData → Bool
  | .int _ => true
  | .bool _ => true
  | _ => false
def dIsBool : PyData → Bool
  | .bool _ => true
  | _ => false
def dIsTup : PyData → Bool
  | .tuple _ => true
  | _ => false
def dIsList : PyData → Bool
  | .list _ => true
  | _ => false
theorem kit_int : ∀ d : PyData, kitB (tyN d) "int" = some (dIsInt d)
  | .none => (by decide +kernel : kitB "NoneType" "int" = some false)
  | .bool _ => (by decide +kernel : kitB "bool" "int" = some true)
  | .int _ => (by decide +kernel : kitB "int" "int" = some true)
  | .str _ => (by decide +kernel : kitB "str" "int" = some false)
  | .list _ => (by decide +kernel : kitB "list" "int" = some false)
  | .tuple _ => (by decide +kernel : kitB "tuple" "int" = some false)
  | .dict _ => (by decide +kernel : kitB "dict" "int" = some false)
theorem kit_bool : ∀ d : PyData, kitB (tyN d) "bool" = some (dIsBool d)
  | .none => (by decide +kernel : kitB "NoneType" "bool" = some false)
  | .bool _ => (by decide +kernel : kitB "bool" "bool" = some true)
  | .int _ => (by decide +kernel : kitB "int" "bool" = some false)
  | .str _ => (by decide +kernel : kitB "str" "bool" = some false)
  | .list _ => (by decide +kernel : kitB "list" "bool" = some false)
  | .tuple _ => (by decide +kernel : kitB "tuple" "bool" = some false)
  | .dict _ => (by decide +kernel : kitB "dict" "bool" = some false)
theorem kit_tup : ∀ d : PyData, kitB (tyN d) "tuple" = some (dIsTup d)
  | .none => (by decide +kernel : kitB "NoneType" "tuple" = some false)
  | .bool _ => (by decide +kernel : kitB "bool" "tuple" = some false)
  | .int _ => (by decide +kernel : kitB "int" "tuple" = some false)
  | .str _ => (by decide +kernel : kitB "str" "tuple" = some false)
  | .list _ => (by decide +kernel : kitB "list" "tuple" = some false)
  | .tuple _ => (by decide +kernel : kitB "tuple" "tuple" = some true)
  | .dict _ => (by decide +kernel : kitB "dict" "tuple" = some false)
theorem kit_list : ∀ d : PyData, kitB (tyN d) "list" = some (dIsList d)
  | .none => (by decide +kernel : kitB "NoneType" "list" = some false)
  | .bool _ => (by decide +kernel : kitB "bool" "list" = some false)
  | .int _ => (by decide +kernel : kitB "int" "list" = some false)
  | .str _ => (by decide +kernel : kitB "str" "list" = some false)
  | .list _ => (by decide +kernel : kitB "list" "list" = some true)
  | .tuple _ => (by decide +kernel : kitB "tuple" "list" = some false)
  | .dict _ => (by decide +kernel : kitB "dict" "list" = some false)
def dIsStr : PyData → Bool
  | .str _ => true
  | _ => false
theorem kit_str : ∀ d : PyData, kitB (tyN d) "str" = some (dIsStr d)
  | .none => (by decide +kernel : kitB "NoneType" "str" = some false)
  | .bool _ => (by decide +kernel : kitB "bool" "str" = some false)
  | .int _ => (by decide +kernel : kitB "int" "str" = some false)
  | .str _ => (by decide +kernel : kitB "str" "str" = some true)
  | .list _ => (by decide +kernel : kitB "list" "str" = some false)
  | .tuple _ => (by decide +kernel : kitB "tuple" "str" = some false)
  | .dict _ => (by decide +kernel : kitB "dict" "str" = some false)
theorem kitAny2 {t a b : Value} {x y : Bool} (h1 : PySem.W.kitOne K t a = some x) (h2 : PySem.W.kitOne K t b = some y) : PySem.W.kitAny K t [a, b] = some (x || y) := by
  refine kitAny_cons h1 (fun e => kitAny_cons h2 (fun e2 => ?_) (fun e2 => ?_)) fun e => ?_
  · rw [e, e2]; exact kitAny_nil
  · rw [e2]; cases x <;> rfl
  · rw [e]; rfl
end

section
variable {X : Cx} {e a b : Expr} {es : List Expr} {σ : L2.St} {R R1 : Hp} {d d1 d2 f : PyData} {ds : List PyData} {pos p : Pos} {x : Str}
theorem pd_bf {id : String} {r : List V → Hp → VK → Prop} (hc : CallR X (.builtin id) r) (hm : X.mg x = none) (hv : bootBuiltins x = some (.builtin id)) (ha : PDs X (e :: es) σ R ds)
    (k : ∀ (vs : List V) (R1 H1 : Hp) (Q : VK), Same R R1 → Same R1 H1 → DvAll X.K R1 vs ds → (∀ v H' R', Grow R1 H1 R' H' → Dv X.K R' v d → Q v H') → r vs H1 Q)
    (hg : Gl X x := by rfl) (hn : x ≠ "__name__" := by decide) (hdb : (x == ("__debug__" : Str)) = false := by decide)
    (he : starEach (e :: es) X.env = (false, eval e X.env) :: starEach es X.env := by rfl) (hpl : (backTo pos (starEach es X.env)).any (·.1) = false := by rfl) : PD X (.Call (.Name x p) (e :: es) [] pos) σ R d :=
  .of (pe_callB hc hg hm hv pa_pd hn hdb he hpl) fun H Q sb q => ⟨R, ds, sb, ha, fun vs H1 R1 g dvs => k vs R1 H1 Q g.sub g.inn dvs fun v H' R' g' dv => q v H' R' (g.trans g') dv⟩
theorem pd_bt {T : String} {r : List V → Hp → VK → Prop} (hc : CallR X (.type T) r) (hm : X.mg x = none) (hv : bootBuiltins x = some (.type T)) (ha : PDs X (e :: es) σ R ds)
    (k : ∀ (vs : List V) (R1 H1 : Hp) (Q : VK), Same R R1 → Same R1 H1 → DvAll X.K R1 vs ds → (∀ v H' R', Grow R1 H1 R' H' → Dv X.K R' v d → Q v H') → r vs H1 Q)
    (hg : Gl X x := by rfl) (hn : x ≠ "__name__" := by decide) (hdb : (x == ("__debug__" : Str)) = false := by decide)
    (he : starEach (e :: es) X.env = (false, eval e X.env) :: starEach es X.env := by rfl) (hpl : (backTo pos (starEach es X.env)).any (·.1) = false := by rfl) : PD X (.Call (.Name x p) (e :: es) [] pos) σ R d :=
  .of (pe_callTy hc hg hm hv pa_pd hn hdb he hpl) fun H Q sb q => ⟨R, ds, sb, ha, fun vs H1 R1 g dvs => k vs R1 H1 Q g.sub g.inn dvs fun v H' R' g' dv => q v H' R' (g.trans g') dv⟩
theorem DvAll.one' {K : PySem.W.Frag} {H : Hp} {vs : List V} {d : PyData} (h : DvAll K H vs [d]) : ∃ v, vs = [v] ∧ Dv K H v d := by
  cases h with
  | cons a b => cases b; exact ⟨_, rfl, a⟩
theorem DvAll.two' {K : PySem.W.Frag} {H : Hp} {vs : List V} {d e : PyData} (h : DvAll K H vs [d, e]) : ∃ v w, vs = [v, w] ∧ Dv K H v d ∧ Dv K H w e := by
  cases h with
  | cons a b =>
    obtain ⟨w, rfl, q⟩ := DvAll.one' b
    exact ⟨_, _, rfl, a, q⟩
theorem pd_len (B : Blt X.mg) (ha : PD X e σ R d) (q : SeqD d ds) (hg : Gl X "len" := by rfl) (he : starEach [e] X.env = (false, eval e X.env) :: starEach [] X.env := by rfl) : PD X (.Call (.Name "len" p) [e] [] pos) σ R (.int ds.length) :=
  pd_bf call_len_seq B.len PySem.boot_len (pds_cons ha pds_nil he) (fun vs R1 H1 Q _ s1 dvs k => by
    obtain ⟨v, rfl, dv⟩ := DvAll.one' dvs
    obtain ⟨p, xs, rfl, hs, hx⟩ := (Dv_mono s1 dv).seq q
    refine ⟨p, xs, rfl, hs, ?_⟩
    rw [DvAll.len hx]
    exact k _ H1 R1 (Grow.refl s1) (.int _)) hg (by decide) (by decide) he
theorem bools_of {bs : List Bool} {ds : List PyData} : bs.map PyData.bool = ds → True := fun _ => trivial
theorem pd_all {bs : List Bool} (hc : X.calm = true) (B : Blt X.mg) (ha : PD X e σ R (.list (bs.map .bool))) (hg : Gl X "all" := by rfl) (he : starEach [e] X.env = (false, eval e X.env) :: starEach [] X.env := by rfl) : PD X (.Call (.Name "all" p) [e] [] pos) σ R (.bool (bs.all id)) :=
  pd_bf (cr_all hc) B.all (by decide +kernel) (pds_cons ha pds_nil he) (fun vs R1 H1 Q _ s1 dvs k => by
    obtain ⟨v, rfl, dv⟩ := DvAll.one' dvs
    obtain ⟨p, xs, rfl, hs, hx⟩ := (Dv_mono s1 dv).lstE
    rw [DvAll.bools hx] at hs
    exact ⟨p, bs, rfl, SqL.of hs, k _ H1 R1 (Grow.refl s1) (.bl _)⟩) hg (by decide) (by decide) he
theorem pd_any {bs : List Bool} (hc : X.calm = true) (B : Blt X.mg) (ha : PD X e σ R (.list (bs.map .bool))) (hg : Gl X "any" := by rfl) (he : starEach [e] X.env = (false, eval e X.env) :: starEach [] X.env := by rfl) : PD X (.Call (.Name "any" p) [e] [] pos) σ R (.bool (bs.any id)) :=
  pd_bf (cr_any hc) B.any (by decide +kernel) (pds_cons ha pds_nil he) (fun vs R1 H1 Q _ s1 dvs k => by
    obtain ⟨v, rfl, dv⟩ := DvAll.one' dvs
    obtain ⟨p, xs, rfl, hs, hx⟩ := (Dv_mono s1 dv).lstE
    rw [DvAll.bools hx] at hs
    exact ⟨p, bs, rfl, SqL.of hs, k _ H1 R1 (Grow.refl s1) (.bl _)⟩) hg (by decide) (by decide) he
/-- tuple(list or tuple) -/
theorem pd_tuple (B : Blt X.mg) (ha : PD X e σ R d) (q : SeqD d ds) (hg : Gl X "tuple" := by rfl) (he : starEach [e] X.env = (false, eval e X.env) :: starEach [] X.env := by rfl) : PD X (.Call (.Name "tuple" p) [e] [] pos) σ R (.tuple ds) :=
  pd_bt call_tuple_of B.tuple PyProof.Rows.boot_tuple (pds_cons ha pds_nil he) (fun vs R1 H1 Q _ s1 dvs k => by
    obtain ⟨v, rfl, dv⟩ := DvAll.one' dvs
    rcases q with rfl | rfl
    · obtain ⟨p, xs, rfl, hs, hx⟩ := dv.lstE
      exact ⟨p, xs, rfl, .inl ⟨SqL.of (s1 _ _ hs), fun l hl => k _ _ _ (Grow.add s1 hl) (.tup (SqT.of upd_same) (DvAll_mono (same_upd (s1.free hl)) hx))⟩⟩
    · obtain ⟨p, xs, rfl, hs, hx⟩ := dv.tupE
      exact ⟨p, xs, rfl, .inr ⟨same_tup s1 hs, k _ H1 R1 (Grow.refl s1) (.tup hs hx)⟩⟩) hg (by decide) (by decide) he
theorem pd_list (B : Blt X.mg) (ha : PD X e σ R d) (q : SeqD d ds) (hg : Gl X "list" := by rfl) (he : starEach [e] X.env = (false, eval e X.env) :: starEach [] X.env := by rfl) : PD X (.Call (.Name "list" p) [e] [] pos) σ R (.list ds) :=
  pd_bt call_list_of B.list PyProof.Rows.boot_list (pds_cons ha pds_nil he) (fun vs R1 H1 Q _ s1 dvs k => by
    obtain ⟨v, rfl, dv⟩ := DvAll.one' dvs
    obtain ⟨p, xs, rfl, hs, hx⟩ := dv.seq q
    refine ⟨p, xs, rfl, ?_, fun l hl => k _ _ _ (Grow.add s1 hl) (.lst upd_same (DvAll_mono (same_upd (s1.free hl)) hx))⟩
    rcases hs with hs | hs
    · exact .inl (s1.seq hs)
    · exact .inr (same_tup s1 hs)) hg (by decide) (by decide) he
theorem pd_int1 {i : Int} (B : Blt X.mg) (ha : PD X e σ R (.int i)) (hg : Gl X "int" := by rfl) (he : starEach [e] X.env = (false, eval e X.env) :: starEach [] X.env := by rfl) : PD X (.Call (.Name "int" p) [e] [] pos) σ R (.int i) :=
  pd_bt call_int1 B.int (by decide +kernel) (pds_cons ha pds_nil he) (fun vs R1 H1 Q _ s1 dvs k => by
    obtain ⟨v, rfl, dv⟩ := DvAll.one' dvs
    cases dv
    exact .inl ⟨i, rfl, k _ H1 R1 (Grow.refl s1) (.int _)⟩) hg (by decide) (by decide) he
theorem pd_int1b {i : Bool} (B : Blt X.mg) (ha : PD X e σ R (.bool i)) (hg : Gl X "int" := by rfl) (he : starEach [e] X.env = (false, eval e X.env) :: starEach [] X.env := by rfl) : PD X (.Call (.Name "int" p) [e] [] pos) σ R (.int (if i then 1 else 0)) :=
  pd_bt call_int1 B.int (by decide +kernel) (pds_cons ha pds_nil he) (fun vs R1 H1 Q _ s1 dvs k => by
    obtain ⟨v, rfl, dv⟩ := DvAll.one' dvs
    cases dv
    exact .inr ⟨i, rfl, k _ H1 R1 (Grow.refl s1) (.int _)⟩) hg (by decide) (by decide) he
theorem pd_abs {i : Int} (B : Blt X.mg) (ha : PD X e σ R (.int i)) (hg : Gl X "abs" := by rfl) (he : starEach [e] X.env = (false, eval e X.env) :: starEach [] X.env := by rfl) : PD X (.Call (.Name "abs" p) [e] [] pos) σ R (.int (if i < 0 then -i else i)) :=
  pd_bf call_abs B.abs (by decide +kernel) (pds_cons ha pds_nil he) (fun vs R1 H1 Q _ s1 dvs k => by
    obtain ⟨v, rfl, dv⟩ := DvAll.one' dvs
    cases dv
    exact ⟨i, rfl, k _ H1 R1 (Grow.refl s1) (.int _)⟩) hg (by decide) (by decide) he
theorem pd_isi {T y : Str} {t : String} {c : Bool} {p2 : Pos} (B : Blt X.mg) (ha : PD X e σ R d) (hm : X.mg y = none) (hv : bootBuiltins y = some (.type t)) (hk : kitB (tyN d) t = some c) (hg : Gl X "isinstance" := by rfl) (hg2 : Gl X y := by rfl) (hn : y ≠ "__name__" := by decide) (hdb : (y == ("__debug__" : Str)) = false := by decide)
    (he : starEach [e, .Name y p2] X.env = (false, eval e X.env) :: starEach [.Name y p2] X.env := by rfl) (he2 : starEach [.Name y p2] X.env = (false, eval (.Name y p2) X.env) :: starEach [] X.env := by rfl) (hpl : (backTo pos (starEach [.Name y p2] X.env)).any (·.1) = false := by rfl) :
    PD X (.Call (.Name "isinstance" p) [e, .Name y p2] [] pos) σ R (.bool c) :=
  .of (pe_callB call_isi hg B.isi (by decide +kernel) (pa_cons pe_pd (pa_cons (pe_bltn (v := .ty t) hg2 hm hv rfl hn hdb) pa_nil he2) he) (by decide) (by decide) he hpl) fun H Q sb k => ⟨R, d, sb, ha, fun v H1 R1 g dv =>
    ⟨v, .ty t, .type (tyN d), .type t, c, rfl, .ty t, (Dv_mono g.inn dv).tyX, kit_ty hk, k _ H1 R1 g (.bl _)⟩⟩
theorem pd_isInt {p2 : Pos} (B : Blt X.mg) (ha : PD X e σ R d) (hg : Gl X "isinstance" := by rfl) (hg2 : Gl X "int" := by rfl)
    (he : starEach [e, .Name "int" p2] X.env = (false, eval e X.env) :: starEach [.Name "int" p2] X.env := by rfl) : PD X (.Call (.Name "isinstance" p) [e, .Name "int" p2] [] pos) σ R (.bool (dIsInt d)) :=
  pd_isi (T := "int") B ha B.int (by decide +kernel) (kit_int d) hg hg2 (by decide) (by decide) he
theorem pd_isBool {p2 : Pos} (B : Blt X.mg) (ha : PD X e σ R d) (hg : Gl X "isinstance" := by rfl) (hg2 : Gl X "bool" := by rfl)
    (he : starEach [e, .Name "bool" p2] X.env = (false, eval e X.env) :: starEach [.Name "bool" p2] X.env := by rfl) : PD X (.Call (.Name "isinstance" p) [e, .Name "bool" p2] [] pos) σ R (.bool (dIsBool d)) :=
  pd_isi (T := "bool") B ha B.bool (by decide +kernel) (kit_bool d) hg hg2 (by decide) (by decide) he
theorem pd_isTup {p2 : Pos} (B : Blt X.mg) (ha : PD X e σ R d) (hg : Gl X "isinstance" := by rfl) (hg2 : Gl X "tuple" := by rfl)
    (he : starEach [e, .Name "tuple" p2] X.env = (false, eval e X.env) :: starEach [.Name "tuple" p2] X.env := by rfl) : PD X (.Call (.Name "isinstance" p) [e, .Name "tuple" p2] [] pos) σ R (.bool (dIsTup d)) :=
  pd_isi (T := "tuple") B ha B.tuple (by decide +kernel) (kit_tup d) hg hg2 (by decide) (by decide) he
theorem pd_isList {p2 : Pos} (B : Blt X.mg) (ha : PD X e σ R d) (hg : Gl X "isinstance" := by rfl) (hg2 : Gl X "list" := by rfl)
    (he : starEach [e, .Name "list" p2] X.env = (false, eval e X.env) :: starEach [.Name "list" p2] X.env := by rfl) : PD X (.Call (.Name "isinstance" p) [e, .Name "list" p2] [] pos) σ R (.bool (dIsList d)) :=
  pd_isi (T := "list") B ha B.list (by decide +kernel) (kit_list d) hg hg2 (by decide) (by decide) he
theorem pd_isi2 {y z : Str} {t u : String} {c c' : Bool} {k2 : Nat} {p2 p3 p4 : Pos} (B : Blt X.mg) (ha : PD X e σ R d) (hm : X.mg y = none) (hv : bootBuiltins y = some (.type t)) (hk : kitB (tyN d) t = some c)
    (hm' : X.mg z = none) (hv' : bootBuiltins z = some (.type u)) (hk' : kitB (tyN d) u = some c') (hn : y ≠ "__name__" := by decide) (hdb : (y == ("__debug__" : Str)) = false := by decide) (hn' : z ≠ "__name__" := by decide) (hdb' : (z == ("__debug__" : Str)) = false := by decide)
    (hg : Gl X "isinstance" := by rfl) (hg2 : Gl X y := by rfl) (hg3 : Gl X z := by rfl)
    (he : starEach [e, .Tuple [.Name y p2, .Name z p3] k2 p4] X.env = (false, eval e X.env) :: starEach [.Tuple [.Name y p2, .Name z p3] k2 p4] X.env := by rfl)
    (he2 : starEach [.Tuple [.Name y p2, .Name z p3] k2 p4] X.env = (false, eval (.Tuple [.Name y p2, .Name z p3] k2 p4) X.env) :: starEach [] X.env := by rfl) (he3 : starEach [.Name y p2, .Name z p3] X.env = (false, eval (.Name y p2) X.env) :: starEach [.Name z p3] X.env := by rfl)
    (he4 : starEach [.Name z p3] X.env = (false, eval (.Name z p3) X.env) :: starEach [] X.env := by rfl) (hpl : (backTo pos (starEach [.Tuple [.Name y p2, .Name z p3] k2 p4] X.env)).any (·.1) = false := by rfl) :
    PD X (.Call (.Name "isinstance" p) [e, .Tuple [.Name y p2, .Name z p3] k2 p4] [] pos) σ R (.bool (c || c')) :=
  .of (pe_callB call_isiT hg B.isi (by decide +kernel) (pa_cons pe_pd (pa_cons (pe_tup (pa_cons (pe_bltn (v := .ty t) hg2 hm hv rfl hn hdb) (pa_cons (pe_bltn (v := .ty u) hg3 hm' hv' rfl hn' hdb') pa_nil he4) he3)) pa_nil he2) he) (by decide) (by decide) he hpl) fun H Q sb k =>
    ⟨R, d, sb, ha, fun v H1 R1 g dv => ⟨by show 2 ≤ sizeLine; decide, fun q hq => by
      have g2 : Grow R H R1 (upd H1 q (.tup [.ty t, .ty u])) := g.trans (Grow.hide g.inn hq)
      exact ⟨v, q, _, .type (tyN d), [.type t, .type u], c || c', rfl, upd_same, .cons (.ty t) (.cons (.ty u) .nil), (Dv_mono g2.inn dv).tyX, kitAny2 (kit_ty hk) (kit_ty hk'), k _ _ R1 g2 (.bl _)⟩⟩⟩
theorem atI_len {α β : Type} {xs : List α} {ys : List β} (h : xs.length = ys.length) (i : Int) : ixN xs.length i = ixN ys.length i := by rw [h]
theorem DvAll.atI {K : PySem.W.Frag} {H : Hp} {xs : List V} {ds : List PyData} {i : Int} {d : PyData} (h : DvAll K H xs ds) (e : atI ds i = some d) : ∃ v, L2.atI xs i = some v ∧ Dv K H v d := by
  unfold L2.atI at e ⊢
  rw [DvAll.len h]
  cases q : ixN ds.length i with
  | none => rw [q] at e; cases e
  | some j =>
    rw [q] at e
    exact DvAll.get h e
theorem pd_ix {i : Int} (ha : PD X a σ R d) (hb : PD X b σ R (.int i)) (q : SeqD d ds) (hi : atI ds i = some f) (hs : PlainIx b := by intro _ _; rfl) : PD X (.Subscript a b pos) σ R f :=
  pd_two (fun _ _ p q => pe_ix ix_seq p q hs) ha hb fun x y R1 H1 Q _ s1 h1 h2 k => by
    cases h2
    obtain ⟨p, xs, rfl, hs, hx⟩ := h1.seq q
    obtain ⟨v, ev, dv⟩ := DvAll.atI hx hi
    rcases hs with hs | hs
    · exact .inl ⟨p, xs, i, v, rfl, rfl, s1.seq hs, ev, k v H1 R1 (Grow.refl s1) dv⟩
    · exact .inr (.inl ⟨p, xs, i, v, rfl, rfl, same_tup s1 hs, ev, k v H1 R1 (Grow.refl s1) dv⟩)
/-- items of xs[lo:hi] -/
def cutA {α : Type} (xs : List α) (lo hi : Option Int) : List α := (xs.drop (HT.sIx xs.length 0 lo)).take (HT.sIx xs.length xs.length hi - HT.sIx xs.length 0 lo)
theorem DvAll.cut {K : PySem.W.Frag} {H : Hp} {xs : List V} {ds : List PyData} (h : DvAll K H xs ds) (lo hi : Option Int) : DvAll K H (cutV xs lo hi) (cutA ds lo hi) := by
  unfold cutV cutA
  rw [DvAll.len h]
  exact (h.drop _).take _
theorem cutA_whole {α : Type} {xs : List α} {lo hi : Option Int} (h : HT.sIx xs.length 0 lo = 0 ∧ HT.sIx xs.length xs.length hi = xs.length) : cutA xs lo hi = xs := by
  unfold cutA
  rw [h.1, h.2, List.drop_zero, Nat.sub_zero, List.take_length]
/-- an optional part of a slice -/
structure POD (X : Cx) (o : Option Expr) (σ : L2.St) (R : Hp) (i : Option Int) : Prop where
  ex : ∃ t : TO, PO X o t ∧ ∀ (H : Hp) (Q : Option Int → Hp → Prop), Same R H → (∀ H' R', Grow R H R' H' → Q i H') → t σ H Q
theorem pod_none : POD X none σ R none := ⟨_, po_none, fun H Q sb k => k H R (Grow.refl sb)⟩
theorem pod_some {i : Int} (h : PD X e σ R (.int i)) : POD X (some e) σ R (some i) := ⟨_, po_some pe_pd, fun H Q sb k => ⟨R, _, sb, h, fun v H' R' g dv => by
  cases dv
  exact ⟨i, rfl, k H' R' g⟩⟩⟩
theorem POD.mono {o : Option Expr} {i : Option Int} (h : POD X o σ R i) (s : Same R R1) : POD X o σ R1 i := by
  obtain ⟨t, h1, h2⟩ := h
  exact ⟨t, h1, fun H Q sb k => h2 H Q (s.trans sb) fun H' R' g => k H' _ (g.wide s sb).1⟩
theorem pd_sliceL {lo hi : Option Expr} {i j : Option Int} {p2 : Pos} (ha : PD X a σ R (.list ds)) (hl : POD X lo σ R i) (hh : POD X hi σ R j) : PD X (.Subscript a (.Slice lo hi none p2) pos) σ R (.list (cutA ds i j)) := by
  obtain ⟨tl, l1, l2⟩ := hl
  obtain ⟨th, h1, h2⟩ := hh
  refine .of (pe_slice sl_list pe_pd l1 h1) fun H Q sb k => ⟨R, _, sb, ha, fun v H1 R1 g dv => ?_⟩
  obtain ⟨tl', e1⟩ : ∃ q : POD X lo σ R1 i, True := ⟨(POD.mono ⟨tl, l1, l2⟩ g.sub), trivial⟩
  refine l2 H1 _ (g.sub.trans g.inn) fun H2 R2 g2 => ?_
  obtain ⟨g2', s2⟩ := g2.wide g.sub g.inn
  refine h2 H2 _ ((g.sub.trans g2'.sub).trans g2'.inn) fun H3 R3 g3 => ?_
  obtain ⟨g3', s3⟩ := g3.wide (g.sub.trans g2'.sub) g2'.inn
  obtain ⟨p, xs, rfl, hs, hx⟩ := Dv.lstE (Dv_mono g3'.sub (Dv_mono g2'.sub dv))
  exact ⟨p, xs, rfl, SqL.of (g3'.inn _ _ hs), fun q hq => k _ _ _ (((g.trans g2').trans g3').trans (Grow.add g3'.inn hq)) (.lst upd_same (DvAll_mono (same_upd (g3'.inn.free hq)) (DvAll.cut hx i j)))⟩
theorem pd_sliceT {lo hi : Option Expr} {i j : Option Int} {p2 : Pos} (ha : PD X a σ R (.tuple ds)) (hl : POD X lo σ R i) (hh : POD X hi σ R j) : PD X (.Subscript a (.Slice lo hi none p2) pos) σ R (.tuple (cutA ds i j)) := by
  obtain ⟨tl, l1, l2⟩ := hl
  obtain ⟨th, h1, h2⟩ := hh
  refine .of (pe_slice sl_tupA pe_pd l1 h1) fun H Q sb k => ⟨R, _, sb, ha, fun v H1 R1 g dv => ?_⟩
  refine l2 H1 _ (g.sub.trans g.inn) fun H2 R2 g2 => ?_
  obtain ⟨g2', s2⟩ := g2.wide g.sub g.inn
  refine h2 H2 _ ((g.sub.trans g2'.sub).trans g2'.inn) fun H3 R3 g3 => ?_
  obtain ⟨g3', s3⟩ := g3.wide (g.sub.trans g2'.sub) g2'.inn
  obtain ⟨p, xs, rfl, hs, hx⟩ := Dv.tupE (Dv_mono g3'.sub (Dv_mono g2'.sub dv))
  refine ⟨p, xs, rfl, same_tup g3'.inn hs, fun hw => ?_, fun hw q hq => ?_⟩
  · rw [DvAll.len hx] at hw
    rw [cutA_whole hw] at k
    exact k _ _ _ ((g.trans g2').trans g3') (.tup hs hx)
  · exact k _ _ _ (((g.trans g2').trans g3').trans (Grow.add g3'.inn hq)) (.tup (SqT.of upd_same) (DvAll_mono (same_upd (g3'.inn.free hq)) (DvAll.cut hx i j)))
theorem pd_opI {op : Operator} {C : Int → Int → Prop} {g : Int → Int → Int} {i j : Int} (ho : OpR X (binaryOp op) (rI C fun i j => .int (g i j))) (ha : PD X a σ R (.int i)) (hb : PD X b σ R (.int j)) (hc : C i j) : PD X (.BinOp a op b pos) σ R (.int (g i j)) :=
  pd_two (fun _ _ p q => pe_op ho p q) ha hb fun x y R1 H1 Q _ s1 h1 h2 k => by
    cases h1
    cases h2
    exact ⟨i, j, rfl, rfl, hc, k _ H1 R1 (Grow.refl s1) (.int _)⟩
theorem pd_opI0 {op : Operator} {g : Int → Int → Int} {i j : Int} (ho : OpR X (binaryOp op) (rI0 fun i j => .int (g i j))) (ha : PD X a σ R (.int i)) (hb : PD X b σ R (.int j)) : PD X (.BinOp a op b pos) σ R (.int (g i j)) :=
  pd_two (fun _ _ p q => pe_op ho p q) ha hb fun x y R1 H1 Q _ s1 h1 h2 k => by
    cases h1
    cases h2
    exact ⟨i, j, rfl, rfl, k _ H1 R1 (Grow.refl s1) (.int _)⟩
theorem pd_add {i j : Int} (ha : PD X a σ R (.int i)) (hb : PD X b σ R (.int j)) : PD X (.BinOp a .Add b pos) σ R (.int (i + j)) := pd_opI0 (g := fun i j => i + j) op_add ha hb
theorem pd_mul {i j : Int} (ha : PD X a σ R (.int i)) (hb : PD X b σ R (.int j)) (h : CMul i j) : PD X (.BinOp a .Mult b pos) σ R (.int (i * j)) := pd_opI (g := fun i j => i * j) op_mul ha hb h
theorem pd_mod {i j : Int} (ha : PD X a σ R (.int i)) (hb : PD X b σ R (.int j)) (h : j ≠ 0) : PD X (.BinOp a .Mod b pos) σ R (.int (i.fmod j)) := pd_opI (g := fun i j => i.fmod j) op_modN ha hb h
theorem pd_div {i j : Int} (ha : PD X a σ R (.int i)) (hb : PD X b σ R (.int j)) (h : CDivN i j) : PD X (.BinOp a .FloorDiv b pos) σ R (.int (i.fdiv j)) := pd_opI (g := fun i j => i.fdiv j) op_fdivN ha hb h
theorem pd_pow {i j : Int} (ha : PD X a σ R (.int i)) (hb : PD X b σ R (.int j)) (h : CPow i j) : PD X (.BinOp a .Pow b pos) σ R (.int (i ^ j.toNat)) := pd_opI (g := fun i j => i ^ j.toNat) op_pow ha hb h
theorem pd_cat {es fs : List PyData} (ha : PD X a σ R (.list es)) (hb : PD X b σ R (.list fs)) (hl : es.length + fs.length ≤ sizeLine) : PD X (.BinOp a .Add b pos) σ R (.list (es ++ fs)) :=
  pd_two (fun _ _ p q => pe_op op_cat p q) ha hb fun x y R1 H1 Q _ s1 h1 h2 k => by
    obtain ⟨p, xs, rfl, hs, hx⟩ := h1.lstE
    obtain ⟨q, ys, rfl, ht, hy⟩ := h2.lstE
    exact ⟨p, q, xs, ys, rfl, rfl, s1 _ _ hs, s1 _ _ ht, by rw [DvAll.len hx, DvAll.len hy]; exact hl, fun l hl => k _ _ _ (Grow.add s1 hl) (.lst upd_same (DvAll_mono (same_upd (s1.free hl)) (hx.app hy)))⟩
theorem pd_catT {es fs : List PyData} (ha : PD X a σ R (.tuple es)) (hb : PD X b σ R (.tuple fs)) (hl : es.length + fs.length ≤ sizeLine) : PD X (.BinOp a .Add b pos) σ R (.tuple (es ++ fs)) :=
  pd_two (fun _ _ p q => pe_op op_catA p q) ha hb fun x y R1 H1 Q _ s1 h1 h2 k => by
    obtain ⟨p, xs, rfl, hs, hx⟩ := h1.tupE
    obtain ⟨q, ys, rfl, ht, hy⟩ := h2.tupE
    refine ⟨p, q, xs, ys, rfl, rfl, same_tup s1 hs, same_tup s1 ht, by rw [DvAll.len hx, DvAll.len hy]; exact hl, fun e => ?_, fun _ e => ?_, fun _ _ l hl => k _ _ _ (Grow.add s1 hl) (.tup (SqT.of upd_same) (DvAll_mono (same_upd (s1.free hl)) (hx.app hy)))⟩
    · subst e
      cases hx
      exact k _ H1 R1 (Grow.refl s1) (.tup ht hy)
    · subst e
      cases hy
      rw [List.append_nil] at k
      exact k _ H1 R1 (Grow.refl s1) (.tup hs hx)
theorem DvAll.rep {K : PySem.W.Frag} {H : Hp} {xs : List V} {ds : List PyData} (h : DvAll K H xs ds) : ∀ n : Nat, DvAll K H (List.replicate n xs).flatten (List.replicate n ds).flatten
  | 0 => .nil
  | n + 1 => by
    rw [List.replicate_succ, List.replicate_succ, List.flatten_cons, List.flatten_cons]
    exact h.app (DvAll.rep h n)
theorem pd_rep {es : List PyData} {n : Int} (ha : PD X a σ R (.list es)) (hb : PD X b σ R (.int n)) (h1 : -(2 ^ 63) ≤ n) (h2 : n < 2 ^ 63) (hl : es.length * n.toNat ≤ sizeLine) : PD X (.BinOp a .Mult b pos) σ R (.list (List.replicate n.toNat es).flatten) :=
  pd_two (fun _ _ p q => pe_op op_rep p q) ha hb fun x y R1 H1 Q _ s1 g1 g2 k => by
    cases g2
    obtain ⟨p, xs, rfl, hs, hx⟩ := g1.lstE
    exact ⟨p, n, xs, rfl, rfl, s1 _ _ hs, h1, h2, by rw [DvAll.len hx]; exact hl, fun l hl => k _ _ _ (Grow.add s1 hl) (.lst upd_same (DvAll_mono (same_upd (s1.free hl)) (hx.rep n.toNat)))⟩
/-- a promise over data: from arguments ds comes d -/
def spD (K : PySem.W.Frag) (pre : List PyData → PyData → Prop) : Sp := fun vs H Q _ => ∃ R ds d, Same R H ∧ DvAll K R vs ds ∧ pre ds d ∧ ∀ v H' R', Grow R H R' H' → Dv K R' v d → Q v H'
/-- a def that stands behind the top and keeps a promise -/
structure Df (P : Program) (w : World) (K : PySem.W.Frag) (mg : Str → Option Value) (base : Heap) (k : Nat) (x : Str) (ps : List Str) (sp : Sp) : Prop where
  ex : ∃ (f : Addr) (fd : FuncData), FnOk P w K mg base CX0 k f fd ps sp ∧ mg x = some (.ref f) ∧ PySem.W.keepIn K (.ref f) = true ∧ Binds K fd ps []
theorem Df.mono {P : Program} {w : World} {K : PySem.W.Frag} {mg : Str → Option Value} {base : Heap} {j k : Nat} {x : Str} {ps : List Str} {sp : Sp} (F : Df P w K mg base j x ps sp) (h : j ≤ k) : Df P w K mg base k x ps sp := by
  obtain ⟨f, fd, a, b, c, d⟩ := F
  exact ⟨f, fd, a.mono h, b, c, d⟩
theorem pd_call {k : Nat} {ps : List Str} {pre : List PyData → PyData → Prop} (F : Df X.prog X.w X.K X.mg X.base k x ps (spD X.K pre)) (hr : Room k X.A) (ha : PDs X (e :: es) σ R ds) (hp : pre ds d) (hg : Gl X x := by rfl) (hdb : (x == ("__debug__" : Str)) = false := by decide)
    (he : starEach (e :: es) X.env = (false, eval e X.env) :: starEach es X.env := by rfl) (hpl : (backTo pos (starEach es X.env)).any (·.1) = false := by rfl) : PD X (.Call (.Name x p) (e :: es) [] pos) σ R d := by
  obtain ⟨fa, fd, a, b, c, g⟩ := F
  refine .of (pe_call a hr hg b c g .nil pass0 pa_pd hdb he hpl) fun H Q sb q => ⟨R, ds, sb, ha, fun vs H1 R1 g dvs => ?_⟩
  show spD X.K pre (vs ++ []) H1 Q E0
  rw [List.append_nil]
  exact ⟨R1, ds, d, g.inn, dvs, hp, fun v H' R' g' dv => q v H' R' (g.trans g') dv⟩
theorem pd_call0 {k : Nat} {ps : List Str} {pre : List PyData → PyData → Prop} (F : Df X.prog X.w X.K X.mg X.base k x ps (spD X.K pre)) (hr : Room k X.A) (hp : pre [] d) (hg : Gl X x := by rfl) (hdb : (x == ("__debug__" : Str)) = false := by decide) : PD X (.Call (.Name x p) [] [] pos) σ R d := by
  obtain ⟨fa, fd, a, b, c, g⟩ := F
  refine .of (pe_call0 a hr hg b c g .nil pass0 hdb) fun H Q sb q => ?_
  show spD X.K pre ([] ++ []) H Q E0
  exact ⟨R, [], d, sb, .nil, hp, q⟩
end
end NF

set_option Elab.async false
set_option linter.all false
set_option maxRecDepth 100000
set_option maxHeartbeats 2000000
namespace NF
open PySem PySem.Spec PyProof.Rows L2

def SqK (K : PySem.W.Frag) : Bool → Hp → Addr → List V → Prop
  | true => SqL K
  | false => SqT K
def SeqAtK : Bool → Heap → Addr → Array Value → Prop
  | true, h, a, its => h.IsList a its
  | false, h, a, its => h.IsTuple a its
def IterK : Bool → Heap → Addr → Addr → Nat → Prop
  | true, h, it, a, i => h.IsListIter it a i
  | false, h, it, a, i => h.IsTupleIter it a i
def iterObj : Bool → Addr → Obj
  | true, a => { cls := .type "list_iterator", data := .fields #[.ref a, .int 0 0] }
  | false, a => { cls := .type "tuple_iterator", data := .fields #[.ref a, .int 0 0] }
theorem drawsK {prog : Program} {w : World} {A : Around} (hh : A.handled = none) : ∀ (k : Bool) (it a : Addr) (hne : a ≠ it) (items : Array Value),
    Draws prog w A it [it, a] items.size (fun i v => items[i]? = some v) (fun i h => IterK k h it a i ∧ SeqAtK k h a items)
  | true, it, a, hne, items => Draws.list hh it a hne items
  | false, it, a, hne, items => Draws.tuple hh it a hne items
theorem beginsK : ∀ (k : Bool) (a : Addr) (items : Array Value), Begins (.ref a) (iterObj k a) fun h => SeqAtK k h a items
  | true, a, items => begins_list a items
  | false, a, items => begins_tuple a items
theorem IterK.new : ∀ {k : Bool} {h : Heap} {it a : Addr}, h.get? it = some (iterObj k a) → IterK k h it a 0
  | true, _, _, _, e => ⟨_, e, rfl, rfl⟩
  | false, _, _, _, e => ⟨_, e, rfl, rfl⟩
theorem IterK.fields : ∀ {k : Bool} {h : Heap} {it a : Addr} {i : Nat}, IterK k h it a i → ∃ (o : Obj) (vs : Array Value), h.get? it = some o ∧ o.data = .fields vs
  | true, _, _, _, _, ⟨o, e, _, d⟩ => ⟨o, _, e, d⟩
  | false, _, _, _, _, ⟨o, e, _, d⟩ => ⟨o, _, e, d⟩
theorem IterK.at' : ∀ {k : Bool} {h h' : Heap} {it a : Addr} {i : Nat}, IterK k h it a i → (∀ o, h.get? it = some o → h'.get? it = some o) → IterK k h' it a i
  | true, _, _, _, _, _, ⟨o, e, c, d⟩, f => ⟨o, f o e, c, d⟩
  | false, _, _, _, _, _, ⟨o, e, c, d⟩, f => ⟨o, f o e, c, d⟩
theorem SeqAtK.lt : ∀ {k : Bool} {h : Heap} {a : Addr} {its : Array Value}, SeqAtK k h a its → a < h.objs.size
  | true, _, _, _, ⟨_, e, _⟩ => Heap.lt_size e
  | false, _, _, _, ⟨_, e, _⟩ => Heap.lt_size e
theorem SeqAtK.keeps : ∀ {k : Bool} {h h' : Heap} {a : Addr} {its : Array Value}, SeqAtK k h a its → (∀ b o, h.get? b = some o → h'.get? b = some o) → SeqAtK k h' a its
  | true, _, _, _, _, ⟨o, e, c⟩, f => ⟨o, f _ _ e, c⟩
  | false, _, _, _, _, ⟨o, e, c⟩, f => ⟨o, f _ _ e, c⟩
theorem sqk_mono {K : PySem.W.Frag} {H H' : Hp} {a : Addr} {xs : List V} (s : Same H H') : ∀ {k : Bool}, SqK K k H a xs → SqK K k H' a xs
  | true, h => s.seq h
  | false, h => same_tup s h
section
variable {X : Cx} {pins : List (Addr × Obj)} {σ : L2.St} {H : Hp} {s : Shared} {a : Addr} {xs ys : List V}
theorem seqk (I : Inv X pins σ H s) : ∀ {k : Bool}, SqK X.K k H a xs → ∃ its : List Value, Vals xs its ∧ SeqAtK k s.heap a its.toArray
  | true, h => let ⟨its, r, p, _⟩ := I.list h; ⟨its, r, p.isList⟩
  | false, h => let ⟨its, r, p, _⟩ := I.tuple h; ⟨its, r, p⟩
theorem sqk_inj (I : Inv X pins σ H s) : ∀ {k : Bool}, SqK X.K k H a xs → SqK X.K k H a ys → xs = ys
  | true, h, h' => I.list_inj h h'
  | false, h, h' => I.tuple_inj h h'
end
theorem Dv.sqk {K : PySem.W.Frag} {H : Hp} {v : V} {d : PyData} {ds : List PyData} (h : Dv K H v d) (q : SeqD d ds) : ∃ k p xs, v = .ref p ∧ SqK K k H p xs ∧ DvAll K H xs ds := by
  rcases q with rfl | rfl
  · cases h with
    | lst a b => exact ⟨true, _, _, rfl, SqL.of a, b⟩
  · cases h with
    | tup a b => exact ⟨false, _, _, rfl, a, b⟩

theorem meets_enumerate_newK {v : Value} {o : Obj} {H : Heap → Prop} (B : Begins v o H) :
    Meets (Builtin.«enumerate.__new__» ⟨[.type "enumerate", v], []⟩) (fun _ R s => H s.heap ∧
      R (.ok (.ret (.ref (s.heap.push o).objs.size))) { s with heap := (s.heap.push o).push { cls := .type "enumerate", data := .fields #[.none, .bool false, .ref s.heap.objs.size, rawInt 0, .none, .none] } }) :=
  .of_wp fun prog w A R s h => by
    obtain ⟨hp, g, d, tk, os⟩ := s; obtain ⟨h1, h⟩ := h
    have hsub := sub_enumerate
    have q1 : ∀ {A' : Around} {E : Value → Shared → Prop} {Q : Value → Shared → Prop}, Q (.ref hp.objs.size) ⟨hp.push o, g, d, tk, os⟩ → wpAny (model prog w) A' (pyIter v) Q E ⟨hp, g, d, tk, os⟩ :=
      fun q => B.iter prog w _ _ ⟨hp, g, d, tk, os⟩ _ h1 q
    wp_walk using q1
    refine wpAny_stack_any fun st => wpAny_pure ?_
    split
    · rename_i c _ _ _ _ _
      cases (c == Value.type "enumerate")
      · wp_walk using q1
        exact ⟨_, rfl, h⟩
      · wp_walk using q1
        exact ⟨_, rfl, h⟩
    · wp_walk using q1
      exact ⟨_, rfl, h⟩
theorem call_enumerateK {prog : Program} {w : World} {A : Around} {E : Value → Shared → Prop} {s : Shared} {v : Value} {o : Obj} {H : Heap → Prop} {Q : Value → Shared → Prop} (B : Begins v o H) (h1 : H s.heap)
    (h : ∀ h', IsEnum h' (s.heap.objs.size + 1) s.heap.objs.size 0 .none → h'.get? s.heap.objs.size = some o → h'.objs.size = s.heap.objs.size + 2 →
      (∀ b o, s.heap.get? b = some o → h'.get? b = some o) → Q (.ref (s.heap.objs.size + 1)) { s with heap := h' }) :
    wpAny (model prog w) A (call (.type "enumerate") [v]) Q E s := by
  refine callType_new F.called_enumerate (by decide) (F.typeCall_enumerate_1 _) (F.newCall_enumerate_1 _) (fun obj => F.args_object_init_2 obj _) F.entry_enumerate_new
    (meets_enumerate_newK B) ⟨h1, ?_⟩
  have hz : (s.heap.push o).objs.size = s.heap.objs.size + 1 := Heap.size_push ..
  show _ ∧ _
  rw [hz]
  have he : IsEnum ((s.heap.push o).push { cls := .type "enumerate", data := .fields #[.none, .bool false, .ref s.heap.objs.size, rawInt 0, .none, .none] }) (s.heap.objs.size + 1) s.heap.objs.size 0 .none := by
    have := Heap.get?_push_size (s.heap.push o) (o := { cls := .type "enumerate", data := .fields #[.none, .bool false, .ref s.heap.objs.size, rawInt 0, .none, .none] }) rfl
    rw [hz] at this; exact this
  refine ⟨⟨_, he, rfl⟩, h _ he (Heap.get?_push_of_some _ (Heap.get?_push_size _ B.free)) (by rw [Heap.size_push, hz]) fun b o x => Heap.get?_push_of_some _ (Heap.get?_push_of_some _ x)⟩
def IteK (K : PySem.W.Frag) (k : Bool) (a : Addr) : It :=
  ⟨fun i H => ∃ (xs : List V) (x : V), SqK K k H a xs ∧ xs[i]? = some x, fun i H v H' => ∃ T x, v = .ref T ∧ H T = none ∧ H' = upd H T (.tup [.int (i : Nat), x]) ∧ ∀ xs, SqK K k H a xs → xs[i]? = some x, fun i H => ∃ xs : List V, SqK K k H a xs ∧ xs.length = i⟩
theorem turn_enumK {P : Program} {w : World} {K : PySem.W.Frag} {elts : List Expr} {kk : Nat} {tpos : Pos} (k : Bool) (a e it : Addr) :
    Turn P w K (.Tuple elts kk tpos) (IteK K k a) [e, it] e (fun i h => (∃ old, IsEnum h e it ((i : Nat) : Int) old) ∧ IterK k h it a i ∧ e ≠ it ∧ e ≠ a ∧ a ≠ it) where
  mem := by simp
  obj := fun i h st b hb => by
    obtain ⟨⟨old, he⟩, hit, _⟩ := st
    obtain ⟨o, vs, ho, hd⟩ := hit.fields
    have e' : b = e ∨ b = it := by simpa using hb
    rcases e' with z | z
    · rw [z]; exact ⟨_, he, fun v q => nomatch q⟩
    · rw [z]; exact ⟨o, ho, fun v q => by rw [hd] at q; cases q⟩
  keep := fun i h h' st k => let ⟨⟨old, he⟩, hi, hne⟩ := st; ⟨⟨old, k e (by simp) _ he⟩, hi.at' fun o q => k it (by simp) o q, hne⟩
  item := by
    intro X hP hw hK hc i pins s σ H E I hf st hg
    subst hP hw hK
    obtain ⟨⟨old, he⟩, hit, hne, hea, hai⟩ := st
    obtain ⟨xs, x, hq, hx⟩ := hg
    obtain ⟨its, rv, p⟩ := seqk I hq
    obtain ⟨u, hu, ru⟩ := rv.get hx
    have hel : e < s.heap.objs.size := Heap.lt_size he
    have hil : it < s.heap.objs.size := by obtain ⟨_, _, q, _⟩ := hit.fields; exact Heap.lt_size q
    have hlt : i < its.toArray.size := by
      have := (List.getElem?_eq_some_iff.mp hu).1
      simpa using this
    refine wpAny_pyNext_enum_itemC (drawsK (A := X.A.in1) (I.ok.hd hc) k it a hai its.toArray) he ⟨hit, p⟩ hlt hne (by simp [hne, hea]) fun x' h' tk hx' ho st' hT hsz hk => ?_
    have ex : x' = u := by
      have q : its.toArray[i]? = some u := by simpa using hu
      rw [q] at hx'
      exact (Option.some.inj hx').symm
    subst ex
    refine ⟨_, rfl, wpAny_letOwnedTupleGo_enum (s := { s with heap := h', toks := tk + 1 }) ho fun h'' he' sb => ?_⟩
    have hT2 : h''.get? s.heap.objs.size = some { cls := .type "tuple", data := .seq #[.int i tk, x'] } := (sb.2 _ (Nat.ne_of_gt hel)).trans hT
    have new : ObjOk X.prog X.w (upd H s.heap.objs.size (.tup [.int (i : Nat), x])) h'' s.heap.objs.size (.tup [.int (i : Nat), x]) :=
      ⟨by show 2 ≤ sizeLine; decide, [.int i tk, x'], .cons ⟨_, rfl⟩ (.cons ru .nil), ⟨_, hT2, rfl, _, rfl⟩⟩
    have I1 : Inv X pins σ (upd H s.heap.objs.size (.tup [.int (i : Nat), x])) { s with heap := h'', toks := tk + 1 } :=
      I.turnedNew (ch := [e, it]) (fun b ob hb q => (sb.2 b (fun z => hb (by simp [z]))).trans (hk b ob (fun z => hb (by simp [z])) (fun z => hb (by simp [z])) q)) hf (Nat.le_refl _) new
    refine ⟨.ref s.heap.objs.size, _, I1, rfl, ⟨_, x, rfl, I.hok.fresh (Nat.le_refl _), rfl, fun ys hy => by rw [sqk_inj I hy hq]; exact hx⟩, ⟨⟨x', ?_⟩, st'.1.at' fun o q => (sb.2 it (Ne.symm hne)).trans q, hne, hea, hai⟩, fun b hb => ?_⟩
    · have e1 : ((i + 1 : Nat) : Int) = (i : Int) + 1 := by omega
      rw [e1]; exact he'
    · have hb' : b < s.heap.objs.size := by
        have e' : b = e ∨ b = it := by simpa using hb
        rcases e' with z | z
        · rw [z]; exact hel
        · rw [z]; exact hil
      rw [upd_ne (Nat.ne_of_lt hb')]
      exact (hf b hb).1
  done := by
    intro X hP hw hK hc i pins s σ H E I hf st hg
    subst hP hw hK
    obtain ⟨⟨old, he⟩, hit, hne, hea, hai⟩ := st
    obtain ⟨xs, hq, hx⟩ := hg
    obtain ⟨its, rv, p⟩ := seqk I hq
    obtain ⟨f0, f1, f2, f3, f4, f5⟩ := hf it (by simp)
    have hl : its.toArray.size = i := by rw [List.size_toArray, ← rv.length]; exact hx
    exact wpAny_pyNext_enum_endD (drawsK (A := X.A.in1) (I.ok.hd hc) k it a hai its.toArray) he (by rw [hl]; exact ⟨hit, p⟩) fun h' eb => ⟨rfl, I.turned (t' := s.toks) (fun b o hb q => eb b o hb q) f0 f1 f3 f4 f5⟩
  self := fun A i s Q E st h => let ⟨⟨_, he⟩, _⟩ := st; wpAny_pyIter_enum he h
def iEnumK (K : PySem.W.Frag) (ta : TA) : TI := fun σ H R => ta σ H fun vs H1 => ∃ k a xs, vs = [.ref a] ∧ SqK K k H1 a xs ∧ R (IteK K k a) H1
theorem pi_enumK {X : Cx} {e : Expr} {ta : TA} {p pos tpos : Pos} {elts : List Expr} {kk : Nat} (hg : Gl X "enumerate") (hm : X.mg "enumerate" = none) (ha : PA X [e] ta) (hs : starEach [e] X.env = [(false, eval e X.env)] := by rfl) :
    PI X (.Tuple elts kk tpos) (.Call (.Name "enumerate" p) [e] [] pos) (iEnumK X.K ta) := by
  refine ⟨fun pins s σ H R I h => ?_⟩
  refine Call_ (ld_blt I hg hm boot_enumerate (PyProof.Rows.callWith_type1 (thn (ha.run pos pins s σ H _ I h) fun us s1 ⟨vs, H1, I1, r1, q1⟩ => ?_) hs rfl))
  obtain ⟨k, a, xs, ex, hq, q⟩ := q1
  subst ex
  cases r1 with
  | cons r rr =>
    cases rr
    cases r
    obtain ⟨its, rv, p'⟩ := seqk I1 hq
    have hal : a < s1.heap.objs.size := p'.lt
    refine call_enumerateK (beginsK k a its.toArray) p' fun h' he hit hsz hk => wpAny_pyIter_enum he ?_
    have I2 : Inv X pins σ H1 { s1 with heap := h' } := I1.kept (t' := s1.toks) hk
    refine ⟨s1.heap.objs.size + 1, [s1.heap.objs.size + 1, s1.heap.objs.size], _, _, H1, rfl, I2, turn_enumK k a (s1.heap.objs.size + 1) s1.heap.objs.size, ⟨⟨.none, he⟩, IterK.new hit, Nat.succ_ne_self _, Nat.ne_of_gt (Nat.lt_succ_of_lt hal), Nat.ne_of_lt hal⟩, fun b hb => ?_, q⟩
    have e' : b = s1.heap.objs.size + 1 ∨ b = s1.heap.objs.size := by simpa using hb
    have hle : s1.heap.objs.size ≤ b := by
      rcases e' with z | z
      · rw [z]; exact Nat.le_add_right _ _
      · rw [z]; exact Nat.le_refl _
    exact I1.fpOk hle (I1.hok.fresh hle)

def ItzK (K : PySem.W.Frag) (k1 k2 : Bool) (a b : Addr) : It :=
  ⟨fun i H => ∃ (xs ys : List V) (x y : V), SqK K k1 H a xs ∧ SqK K k2 H b ys ∧ xs[i]? = some x ∧ ys[i]? = some y,
    fun i H v H' => ∃ T x y, v = .ref T ∧ H T = none ∧ H' = upd H T (.tup [x, y]) ∧ (∀ xs, SqK K k1 H a xs → xs[i]? = some x) ∧ ∀ ys, SqK K k2 H b ys → ys[i]? = some y,
    fun i H => ∃ xs ys : List V, SqK K k1 H a xs ∧ SqK K k2 H b ys ∧ i = min xs.length ys.length⟩
theorem zsep {z TI TO i1 i2 l1 l2 : Addr} (D : ZipApart z TI TO i1 i2 l1 l2) : ZipSep2 z TI TO i1 i2 [i1, l1] [i2, l2] := by
  obtain ⟨a1, a2, a3, a4, a5, a6, a7, a8, a9, a10, a11, a12, a13, a14, a15, a16, a17, a18⟩ := D
  refine ⟨a1, a2, a5, a6, by simp, ?_, ?_, a7, by simp, ?_, ?_, ?_, ?_⟩ <;> (simp only [List.mem_cons, List.not_mem_nil, or_false, not_or]; exact ⟨by first | assumption | exact Ne.symm ‹_›, by first | assumption | exact Ne.symm ‹_›⟩)
theorem turn_zipK {P : Program} {w : World} {K : PySem.W.Frag} {elts : List Expr} {kk : Nat} {tpos : Pos} (k1 k2 : Bool) {a b z TI TO i1 i2 : Addr} (D : ZipApart z TI TO i1 i2 a b) :
    Turn P w K (.Tuple elts kk tpos) (ItzK K k1 k2 a b) [z, TI, TO, i1, i2] z (fun i h => IsZip h z TI TO .none ∧ IsPair h TI (.ref i1) (.ref i2) ∧ (∃ x y, IsPair h TO x y) ∧ IterK k1 h i1 a i ∧ IterK k2 h i2 b i) where
  mem := by simp
  obj := fun i h st c hc => by
    obtain ⟨hz, hTI, ⟨x, y, hTO⟩, h1, h2⟩ := st
    obtain ⟨o1, v1, e1, d1⟩ := h1.fields
    obtain ⟨o2, v2, e2, d2⟩ := h2.fields
    have e' : c = z ∨ c = TI ∨ c = TO ∨ c = i1 ∨ c = i2 := by simpa using hc
    rcases e' with q | q | q | q | q
    · rw [q]; exact ⟨_, hz, fun v q => nomatch q⟩
    · rw [q]; exact ⟨_, hTI, fun v q => nomatch q⟩
    · rw [q]; exact ⟨_, hTO, fun v q => nomatch q⟩
    · rw [q]; exact ⟨o1, e1, fun v q => by rw [d1] at q; cases q⟩
    · rw [q]; exact ⟨o2, e2, fun v q => by rw [d2] at q; cases q⟩
  keep := fun i h h' st k => by
    obtain ⟨hz, hTI, ⟨x, y, hTO⟩, h1, h2⟩ := st
    exact ⟨k z (by simp) _ hz, k TI (by simp) _ hTI, ⟨x, y, k TO (by simp) _ hTO⟩, h1.at' fun o q => k i1 (by simp) o q, h2.at' fun o q => k i2 (by simp) o q⟩
  item := by
    intro X hP hw hK hc i pins s σ H E I hf st hg
    subst hP hw hK
    obtain ⟨hz, hTI, ⟨x0, y0, hTO⟩, h1, h2⟩ := st
    obtain ⟨xs, ys, x, y, hqx, hqy, hx, hy⟩ := hg
    obtain ⟨its, rv, p⟩ := seqk I hqx
    obtain ⟨its2, rv2, p2⟩ := seqk I hqy
    obtain ⟨u, hu, ru⟩ := rv.get hx
    obtain ⟨u2, hu2, ru2⟩ := rv2.get hy
    have hzl : z < s.heap.objs.size := Heap.lt_size hz
    have l1 : i < its.toArray.size := by simpa using (List.getElem?_eq_some_iff.mp hu).1
    have l2 : i < its2.toArray.size := by simpa using (List.getElem?_eq_some_iff.mp hu2).1
    refine wpAny_pyNext_zipD2_item (zsep D) (drawsK (A := X.A.in1) (I.ok.hd hc) k1 i1 a D.l1i1 its.toArray) (drawsK (A := X.A.in1) (I.ok.hd hc) k2 i2 b D.l2i2 its2.toArray) hz hTI hTO ⟨h1, p⟩ ⟨h2, p2⟩ l1 l2 fun x1 x2 h' tk q1 q2 z' TO' st1 st2 hT hsz hk => ?_
    have ex : x1 = u := by
      have q : its.toArray[i]? = some u := by simpa using hu
      rw [q] at q1
      exact (Option.some.inj q1).symm
    have ey : x2 = u2 := by
      have q : its2.toArray[i]? = some u2 := by simpa using hu2
      rw [q] at q2
      exact (Option.some.inj q2).symm
    subst ex
    subst ey
    refine ⟨_, rfl, wpAny_letOwnedTupleGo_zip (s := { s with heap := h', toks := tk }) z' fun h'' z'' sb => ?_⟩
    have hT2 : h''.get? s.heap.objs.size = some { cls := .type "tuple", data := .seq #[x1, x2] } := (sb.2 _ (Nat.ne_of_gt hzl)).trans hT
    have new : ObjOk X.prog X.w (upd H s.heap.objs.size (.tup [x, y])) h'' s.heap.objs.size (.tup [x, y]) :=
      ⟨by show 2 ≤ sizeLine; decide, [x1, x2], .cons ru (.cons ru2 .nil), ⟨_, hT2, rfl, _, rfl⟩⟩
    have I1 : Inv X pins σ (upd H s.heap.objs.size (.tup [x, y])) { s with heap := h'', toks := tk } :=
      I.turnedNew (t' := tk) (ch := [z, TI, TO, i1, i2]) (fun c o hb q => (sb.2 c (fun q' => hb (by simp [q']))).trans (hk c o (fun q' => hb (by simp [q'])) (fun q' => hb (by simp [q'])) (fun q' => hb (by simp [q'])) (fun q' => hb (by simp [q'])) q)) hf (Nat.le_refl _) new
    refine ⟨.ref s.heap.objs.size, _, I1, rfl, ⟨_, x, y, rfl, I.hok.fresh (Nat.le_refl _), rfl, fun l hl => by rw [sqk_inj I hl hqx]; exact hx, fun l hl => by rw [sqk_inj I hl hqy]; exact hy⟩, ⟨z'', ?_, ⟨x1, x2, ?_⟩, ?_, ?_⟩, fun c hcm => ?_⟩
    · exact (sb.2 _ D.TIz).trans (hk _ _ D.TIz D.TITO D.TIi1 D.TIi2 hTI)
    · exact (sb.2 _ D.TOz).trans TO'
    · exact st1.1.at' fun o q => (sb.2 _ D.i1z).trans q
    · exact st2.1.at' fun o q => (sb.2 _ D.i2z).trans q
    · have hlt : c < s.heap.objs.size := by
        have e' : c = z ∨ c = TI ∨ c = TO ∨ c = i1 ∨ c = i2 := by simpa using hcm
        rcases e' with q | q | q | q | q
        · rw [q]; exact hzl
        · rw [q]; exact Heap.lt_size hTI
        · rw [q]; exact Heap.lt_size hTO
        · rw [q]; obtain ⟨_, _, e1, _⟩ := h1.fields; exact Heap.lt_size e1
        · rw [q]; obtain ⟨_, _, e2, _⟩ := h2.fields; exact Heap.lt_size e2
      rw [upd_ne (Nat.ne_of_lt hlt)]
      exact (hf c hcm).1
  done := by
    intro X hP hw hK hc i pins s σ H E I hf st hg
    subst hP hw hK
    obtain ⟨hz, hTI, ⟨x0, y0, hTO⟩, h1, h2⟩ := st
    obtain ⟨xs, ys, hqx, hqy, hend⟩ := hg
    obtain ⟨its, rv, p⟩ := seqk I hqx
    obtain ⟨its2, rv2, p2⟩ := seqk I hqy
    have l1 : its.toArray.size = xs.length := by rw [List.size_toArray, ← rv.length]
    have l2 : its2.toArray.size = ys.length := by rw [List.size_toArray, ← rv2.length]
    exact wpAny_pyNext_zipD2_end (zsep D) (drawsK (A := X.A.in1) (I.ok.hd hc) k1 i1 a D.l1i1 its.toArray) (drawsK (A := X.A.in1) (I.ok.hd hc) k2 i2 b D.l2i2 its2.toArray) hz hTI hTO ⟨h1, p⟩ ⟨h2, p2⟩ (by omega) (by omega) (by omega) fun h' tk hk => ⟨rfl, I.turnedL (t' := tk) (ch := [z, TI, TO, i1, i2]) (fun c o hb q =>
      hk c o (fun q' => hb (by simp [q'])) (fun q' => hb (by simp [q'])) (fun q' => hb (by simp [q'])) (fun q' => hb (by simp [q'])) q) hf⟩
  self := fun A i s Q E st h => wpAny_pyIter_zip st.1 h
def iZipK (K : PySem.W.Frag) (ta : TA) : TI := fun σ H R => ta σ H fun vs H1 => ∃ k1 k2 a b xs ys, vs = [.ref a, .ref b] ∧ SqK K k1 H1 a xs ∧ SqK K k2 H1 b ys ∧ R (ItzK K k1 k2 a b) H1
theorem pi_zipK {X : Cx} {e e2 : Expr} {ta : TA} {p pos tpos : Pos} {elts : List Expr} {kk : Nat} (hg : Gl X "zip") (hm : X.mg "zip" = none) (ha : PA X [e, e2] ta)
    (hs : starEach [e, e2] X.env = (false, eval e X.env) :: starEach [e2] X.env := by rfl) (hpl : (backTo pos (starEach [e2] X.env)).any (·.1) = false := by rfl) :
    PI X (.Tuple elts kk tpos) (.Call (.Name "zip" p) [e, e2] [] pos) (iZipK X.K ta) := by
  refine ⟨fun pins s σ H R I h => ?_⟩
  refine Call_ (ld_blt I hg hm PyProof.Rows.boot_zip (PyProof.Rows.callWith_type1 (thn (ha.run pos pins s σ H _ I h) fun us s1 ⟨vs, H1, I1, r1, q1⟩ => ?_) hs hpl))
  obtain ⟨k1, k2, a, b, xs, ys, ex, hqx, hqy, q⟩ := q1
  subst ex
  cases r1 with
  | cons r rr =>
    cases rr with
    | cons r' rr =>
      cases rr
      cases r
      cases r'
      obtain ⟨its, rv, p1⟩ := seqk I1 hqx
      obtain ⟨its2, rv2, p2⟩ := seqk I1 hqy
      refine zip_begins2 (beginsK k1 a its.toArray) (beginsK k2 b its2.toArray) p1 p2 fun h' hz hTI hTO h1 h2 hsz hk => wpAny_pyIter_zip hz ?_
      have I2 : Inv X pins σ H1 { s1 with heap := h' } := I1.kept (t' := s1.toks) hk
      refine ⟨s1.heap.objs.size + 4, [s1.heap.objs.size + 4, s1.heap.objs.size + 2, s1.heap.objs.size + 3, s1.heap.objs.size, s1.heap.objs.size + 1], _, _, H1, rfl, I2, turn_zipK k1 k2 (PySem.W.ktu_apart s1.heap.objs.size a b p1.lt p2.lt), ⟨hz, hTI, ⟨_, _, hTO⟩, IterK.new h1, IterK.new h2⟩, fun c hcm => ?_, q⟩
      have e' : c = s1.heap.objs.size + 4 ∨ c = s1.heap.objs.size + 2 ∨ c = s1.heap.objs.size + 3 ∨ c = s1.heap.objs.size ∨ c = s1.heap.objs.size + 1 := by simpa using hcm
      have hle : s1.heap.objs.size ≤ c := by
        rcases e' with z | z | z | z | z
        · rw [z]; exact Nat.le_add_right _ _
        · rw [z]; exact Nat.le_add_right _ _
        · rw [z]; exact Nat.le_add_right _ _
        · rw [z]; exact Nat.le_refl _
        · rw [z]; exact Nat.le_add_right _ _
      exact I1.fpOk hle (I1.hok.fresh hle)
end NF

set_option Elab.async false
set_option linter.all false
set_option maxRecDepth 100000
set_option maxHeartbeats 2000000
namespace NF
open PySem PySem.Spec PyProof.Rows L2

/-- an iterator that gives the data ds, one a turn, whatever is newly read -/
structure WD (K : PySem.W.Frag) (J : It) (R0 : Hp) (ds : List PyData) : Prop where
  goes : ∀ (i : Nat) (R H : Hp), Same R0 R → Same R H → i < ds.length → J.go i H
  stops : ∀ (R H : Hp), Same R0 R → Same R H → J.stop ds.length H
  yields : ∀ (i : Nat) (R H : Hp) (x : V) (H' : Hp), Same R0 R → Same R H → i < ds.length → J.yld i H x H' → ∃ R' d, Grow R H R' H' ∧ ds[i]? = some d ∧ Dv K R' x d
structure PID (X : Cx) (tg iter : Expr) (σ : L2.St) (R : Hp) (ds : List PyData) : Prop where
  run : ∀ (pins : List (Addr × Obj)) (s : Shared) (H : Hp) (Rt : It → Hp → Prop), Inv X pins σ H s → Same R H → (∀ J H' R', Grow R H R' H' → WD X.K J R' ds → Rt J H') →
    wpAny (model X.prog X.w) X.A (eval iter X.env) (fun v s1 => wpAny (model X.prog X.w) X.A (pyIter v) (PIE X pins σ tg Rt) X.xe s1) X.xe s
def tPID (X : Cx) (tg iter : Expr) : TI := fun σ H Rt => ∃ R ds, Same R H ∧ PID X tg iter σ R ds ∧ ∀ J H' R', Grow R H R' H' → WD X.K J R' ds → Rt J H'
theorem pi_pd {X : Cx} {tg iter : Expr} : PI X tg iter (tPID X tg iter) := ⟨fun pins s σ H Rt I h => by
  obtain ⟨R, ds, sb, p, k⟩ := h
  exact p.run pins s H Rt I sb k⟩
theorem PID.of {X : Cx} {tg iter : Expr} {σ : L2.St} {R : Hp} {ds : List PyData} {wi : TI} (h : PI X tg iter wi) (ev : ∀ (H : Hp) (Rt : It → Hp → Prop), Same R H → (∀ J H' R', Grow R H R' H' → WD X.K J R' ds → Rt J H') → wi σ H Rt) : PID X tg iter σ R ds :=
  ⟨fun pins s H Rt I sb k => h.run pins s σ H Rt I (ev H Rt sb k)⟩
section
variable {K : PySem.W.Frag} {R0 : Hp} {a b : Addr} {xs ys : List V} {ds es : List PyData}
theorem wd_list (h : SqL K R0 a xs) (hx : DvAll K R0 xs ds) : WD K (Itl K a) R0 ds where
  goes := fun i R H s1 s2 hi => ⟨xs, xs[i]'(by rw [DvAll.len hx]; exact hi), (s1.trans s2).seq h, List.getElem?_eq_getElem _⟩
  stops := fun R H s1 s2 => ⟨xs, (s1.trans s2).seq h, Nat.le_of_eq (DvAll.len hx)⟩
  yields := fun i R H x H' s1 s2 hi y => by
    obtain ⟨rfl, y⟩ := y
    obtain ⟨d, e, dv⟩ := DvAll.at hx (y xs ((s1.trans s2).seq h))
    exact ⟨R, d, Grow.refl s2, e, Dv_mono s1 dv⟩
theorem wd_tup (h : SqT K R0 a xs) (hx : DvAll K R0 xs ds) : WD K (Itt K a) R0 ds where
  goes := fun i R H s1 s2 hi => ⟨xs, xs[i]'(by rw [DvAll.len hx]; exact hi), same_tup (s1.trans s2) h, List.getElem?_eq_getElem _⟩
  stops := fun R H s1 s2 => ⟨xs, same_tup (s1.trans s2) h, Nat.le_of_eq (DvAll.len hx)⟩
  yields := fun i R H x H' s1 s2 hi y => by
    obtain ⟨rfl, y⟩ := y
    obtain ⟨d, e, dv⟩ := DvAll.at hx (y xs (same_tup (s1.trans s2) h))
    exact ⟨R, d, Grow.refl s2, e, Dv_mono s1 dv⟩
/-- pairs of both -/
def zipD (ds es : List PyData) : List PyData := List.zipWith (fun d e => PyData.tuple [d, e]) ds es
theorem zipD_len : (zipD ds es).length = min ds.length es.length := List.length_zipWith
theorem zipD_at {i : Nat} {d e : PyData} (h1 : ds[i]? = some d) (h2 : es[i]? = some e) : (zipD ds es)[i]? = some (.tuple [d, e]) := by
  unfold zipD
  rw [List.getElem?_zipWith, h1, h2]
theorem wd_zip {k1 k2 : Bool} (h : SqK K k1 R0 a xs) (hx : DvAll K R0 xs ds) (h' : SqK K k2 R0 b ys) (hy : DvAll K R0 ys es) : WD K (ItzK K k1 k2 a b) R0 (zipD ds es) where
  goes := fun i R H s1 s2 hi => by
    rw [zipD_len] at hi
    exact ⟨xs, ys, xs[i]'(by rw [DvAll.len hx]; omega), ys[i]'(by rw [DvAll.len hy]; omega), sqk_mono (s1.trans s2) h, sqk_mono (s1.trans s2) h', List.getElem?_eq_getElem _, List.getElem?_eq_getElem _⟩
  stops := fun R H s1 s2 => ⟨xs, ys, sqk_mono (s1.trans s2) h, sqk_mono (s1.trans s2) h', by rw [zipD_len, DvAll.len hx, DvAll.len hy]⟩
  yields := fun i R H x H' s1 s2 hi y => by
    obtain ⟨T, u, v, rfl, hT, rfl, y1, y2⟩ := y
    obtain ⟨d, e1, dv⟩ := DvAll.at hx (y1 xs (sqk_mono (s1.trans s2) h))
    obtain ⟨e, e2, ev⟩ := DvAll.at hy (y2 ys (sqk_mono (s1.trans s2) h'))
    have z := same_upd (o := .tup [u, v]) (s2.free hT)
    exact ⟨_, _, Grow.add s2 hT, zipD_at e1 e2, .tup (SqT.of upd_same) (.cons (Dv_mono (s1.trans z) dv) (.cons (Dv_mono (s1.trans z) ev) .nil))⟩
/-- numbered from n on -/
def enumD : Nat → List PyData → List PyData
  | _, [] => []
  | n, d :: ds => .tuple [.int (n : Nat), d] :: enumD (n + 1) ds
theorem enumD_len : ∀ (n : Nat) (ds : List PyData), (enumD n ds).length = ds.length
  | _, [] => rfl
  | n, d :: ds => by rw [enumD, List.length_cons, List.length_cons, enumD_len (n + 1) ds]
theorem enumD_at : ∀ (n : Nat) (ds : List PyData) {i : Nat} {d : PyData}, ds[i]? = some d → (enumD n ds)[i]? = some (.tuple [.int ((n + i : Nat) : Int), d])
  | _, [], i, d, h => by simp at h
  | n, e :: ds, 0, d, h => by
    have : e = d := by simpa using h
    subst this
    rfl
  | n, e :: ds, i + 1, d, h => by
    rw [enumD, List.getElem?_cons_succ, enumD_at (n + 1) ds (i := i) (d := d) (by simpa using h)]
    have : n + 1 + i = n + (i + 1) := by omega
    rw [this]
theorem wd_enum {k : Bool} (h : SqK K k R0 a xs) (hx : DvAll K R0 xs ds) : WD K (IteK K k a) R0 (enumD 0 ds) where
  goes := fun i R H s1 s2 hi => by
    rw [enumD_len] at hi
    exact ⟨xs, xs[i]'(by rw [DvAll.len hx]; omega), sqk_mono (s1.trans s2) h, List.getElem?_eq_getElem _⟩
  stops := fun R H s1 s2 => ⟨xs, sqk_mono (s1.trans s2) h, by rw [enumD_len, DvAll.len hx]⟩
  yields := fun i R H x H' s1 s2 hi y => by
    obtain ⟨T, u, rfl, hT, rfl, y1⟩ := y
    obtain ⟨d, e1, dv⟩ := DvAll.at hx (y1 xs (sqk_mono (s1.trans s2) h))
    have z := same_upd (o := .tup [.int (i : Nat), u]) (s2.free hT)
    have e2 := enumD_at 0 ds e1
    rw [Nat.zero_add] at e2
    exact ⟨_, _, Grow.add s2 hT, e2, .tup (SqT.of upd_same) (.cons (.int _) (.cons (Dv_mono (s1.trans z) dv) .nil))⟩
def rangeD (n : Nat) : List PyData := (List.range n).map fun i => .int ((i : Nat) : Int)
theorem rangeD_len (n : Nat) : (rangeD n).length = n := by unfold rangeD; rw [List.length_map, List.length_range]
theorem wd_range (n : Nat) : WD K (Itr 0 n) R0 (rangeD n) where
  goes := fun i R H s1 s2 hi => by rw [rangeD_len] at hi; exact hi
  stops := fun R H s1 s2 => by rw [rangeD_len]; exact Nat.le_refl _
  yields := fun i R H x H' s1 s2 hi y => by
    rw [rangeD_len] at hi
    obtain ⟨rfl, y⟩ := y
    subst y
    refine ⟨R, .int (0 + (i : Nat)), Grow.refl s2, ?_, .int _⟩
    unfold rangeD
    rw [List.getElem?_map, List.getElem?_range hi]
    simp
end
section
variable {X : Cx} {tg e e2 : Expr} {σ : L2.St} {R R1 : Hp} {d d2 : PyData} {ds es : List PyData} {pos p : Pos}
theorem pid_seq (ha : PD X e σ R d) (q : SeqD d ds) : PID X tg e σ R ds := by
  rcases q with rfl | rfl
  · exact .of (pi_list pe_pd) fun H Rt sb k => ⟨R, _, sb, ha, fun v H' R' g dv => by
      obtain ⟨p, xs, rfl, hs, hx⟩ := dv.lstE
      exact ⟨p, rfl, ⟨xs, SqL.of (g.inn _ _ hs)⟩, k _ H' R' g (wd_list (SqL.of hs) hx)⟩⟩
  · exact .of (pi_tup pe_pd) fun H Rt sb k => ⟨R, _, sb, ha, fun v H' R' g dv => by
      obtain ⟨p, xs, rfl, hs, hx⟩ := dv.tupE
      exact ⟨p, rfl, ⟨xs, same_tup g.inn hs⟩, k _ H' R' g (wd_tup hs hx)⟩⟩
theorem pid_zip {elts : List Expr} {kk : Nat} {tpos : Pos} (B : Blt X.mg) (ha : PD X e σ R d) (q : SeqD d ds) (hb : PD X e2 σ R d2) (q2 : SeqD d2 es) (hg : Gl X "zip" := by rfl) (he : starEach [e, e2] X.env = (false, eval e X.env) :: starEach [e2] X.env := by rfl) (he2 : starEach [e2] X.env = (false, eval e2 X.env) :: starEach [] X.env := by rfl)
    (hpl : (backTo pos (starEach [e2] X.env)).any (·.1) = false := by rfl) : PID X (.Tuple elts kk tpos) (.Call (.Name "zip" p) [e, e2] [] pos) σ R (zipD ds es) :=
  .of (pi_zipK hg B.zip (pa_pd (es := [e, e2])) he hpl) fun H Rt sb k => ⟨R, [d, d2], sb, pds_cons ha (pds_cons hb pds_nil he2) he, fun vs H' R' g dvs => by
    obtain ⟨v, w, rfl, dv, dw⟩ := DvAll.two' dvs
    obtain ⟨k1, a, xs, rfl, hs, hx⟩ := dv.sqk q
    obtain ⟨k2, b, ys, rfl, ht, hy⟩ := dw.sqk q2
    exact ⟨k1, k2, a, b, xs, ys, rfl, sqk_mono g.inn hs, sqk_mono g.inn ht, k _ H' R' g (wd_zip hs hx ht hy)⟩⟩
theorem pid_enum {elts : List Expr} {kk : Nat} {tpos : Pos} (B : Blt X.mg) (ha : PD X e σ R d) (q : SeqD d ds) (hg : Gl X "enumerate" := by rfl) (he : starEach [e] X.env = [(false, eval e X.env)] := by rfl) : PID X (.Tuple elts kk tpos) (.Call (.Name "enumerate" p) [e] [] pos) σ R (enumD 0 ds) :=
  .of (pi_enumK hg B.enum (pa_pd (es := [e])) he) fun H Rt sb k => ⟨R, [d], sb, pds_cons ha pds_nil he, fun vs H' R' g dvs => by
    obtain ⟨v, rfl, dv⟩ := DvAll.one' dvs
    obtain ⟨k1, a, xs, rfl, hs, hx⟩ := dv.sqk q
    exact ⟨k1, a, xs, rfl, sqk_mono g.inn hs, k _ H' R' g (wd_enum hs hx)⟩⟩
theorem pid_range {n : Int} (B : Blt X.mg) (ha : PD X e σ R (.int n)) (h1 : -(2 ^ 62) ≤ n) (h2 : n < 2 ^ 62) (hg : Gl X "range" := by rfl) (he : starEach [e] X.env = [(false, eval e X.env)] := by rfl) : PID X tg (.Call (.Name "range" p) [e] [] pos) σ R (rangeD n.toNat) :=
  .of (pi_range1 hg B.range (pa_pd (es := [e])) he) fun H Rt sb k => ⟨R, [.int n], sb, pds_cons ha pds_nil he, fun vs H' R' g dvs => by
    obtain ⟨v, rfl, dv⟩ := DvAll.one' dvs
    cases dv
    exact ⟨n, rfl, h1, h2, k _ H' R' g (wd_range _)⟩⟩

def PTsD (X : Cx) (ifs : List Expr) (σ : L2.St) (R : Hp) (b : Bool) : Prop := ∃ t, PTs X ifs t ∧ ∀ (H : Hp) (Q : Bool → Hp → Prop), Same R H → (∀ H' R', Grow R H R' H' → Q b H') → t σ H Q
theorem ptsd_nil {X : Cx} {σ : L2.St} {R : Hp} : PTsD X [] σ R true := ⟨_, pts_nil, fun H Q sb k => k H R (Grow.refl sb)⟩
theorem ptsd_one {X : Cx} {c : Expr} {σ : L2.St} {R : Hp} {b : Bool} (h : PTD X c σ R b) : PTsD X [c] σ R b := ⟨_, pts_one pt_pd, fun H Q sb k => ⟨R, b, sb, h, k⟩⟩
/-- what a turn does once its target is stored: the tests, the element; f's value at d -/
def LcB (X : Cx) (scope : Scope) (ifs : List Expr) (elt : Expr) (σ2 : L2.St) (R1 : Hp) (r : Option PyData) : Prop :=
  ∃ b, (∀ (s : Shared) (H : Hp) (C : Addr) (cl : List (Str × Addr)) (fp : List Addr), PTsD (X.blk s H scope (compEnvC scope cl C X.env) fp) ifs σ2 R1 b) ∧
    (b = true → ∃ e, r = some e ∧ ∀ (s : Shared) (H : Hp) (C : Addr) (cl : List (Str × Addr)) (fp : List Addr), PD (X.blk s H scope (compEnvC scope cl C X.env) fp) elt σ2 R1 e) ∧ (b = false → r = none)
theorem lcb_all {scope : Scope} {elt : Expr} {σ2 : L2.St} {e : PyData} (h : ∀ (s : Shared) (H : Hp) (C : Addr) (cl : List (Str × Addr)) (fp : List Addr), PD (X.blk s H scope (compEnvC scope cl C X.env) fp) elt σ2 R1 e) : LcB X scope [] elt σ2 R1 (some e) :=
  ⟨true, fun _ _ _ _ _ => ptsd_nil, fun _ => ⟨e, rfl, h⟩, fun z => nomatch z⟩
theorem lcb_if {scope : Scope} {c elt : Expr} {σ2 : L2.St} {b : Bool} {e : PyData} (ht : ∀ (s : Shared) (H : Hp) (C : Addr) (cl : List (Str × Addr)) (fp : List Addr), PTD (X.blk s H scope (compEnvC scope cl C X.env) fp) c σ2 R1 b)
    (h : b = true → ∀ (s : Shared) (H : Hp) (C : Addr) (cl : List (Str × Addr)) (fp : List Addr), PD (X.blk s H scope (compEnvC scope cl C X.env) fp) elt σ2 R1 e) : LcB X scope [c] elt σ2 R1 (if b = true then some e else none) :=
  ⟨b, fun s H C cl fp => ptsd_one (ht s H C cl fp), fun q => ⟨e, by rw [if_pos q], h q⟩, fun q => by rw [if_neg (by rw [q]; exact Bool.false_ne_true)]⟩
theorem take_next {α : Type} {l : List α} {i : Nat} {x : α} (h : l[i]? = some x) : l.take (i + 1) = l.take i ++ [x] := by
  rw [List.take_add_one, h]
  rfl
theorem pd_lc {elt iter : Expr} {ifs : List Expr} {scope : Scope} {own : List (Str × Nat)} {f : PyData → Option PyData} {g : TG} (hc : X.calm = true) (hN : X.N.Nodup) (hi : PID X tg iter σ R ds) (ok : BlkOk X.N X.env.scope scope own) (hl : ds.length ≤ sizeLine)
    (hg : ∀ (s : Shared) (H : Hp) (C : Addr) (cl : List (Str × Addr)) (fp : List Addr), PG (X.blk s H scope (compEnvC scope cl C X.env) fp) tg g)
    (turn : ∀ (d : PyData) (v : V) (R1 H1 : Hp) (k : L2.St → Hp → Prop), d ∈ ds → Same R R1 → Same R1 H1 → Dv X.K R1 v d →
      (∀ σ2, wipe σ2 (own.map (·.2)) = wipe σ (own.map (·.2)) → LcB X scope ifs elt σ2 R1 (f d) → k σ2 H1) → g v (wipe σ (own.map (·.2))) H1 k)
    (hs : ∀ x, foldedSetIterable iter X.env x = pure x := by intro _; rfl) : PD X (.ListComp elt [⟨tg, iter, ifs, 0⟩] scope pos) σ R (.list (ds.filterMap f)) := by
  let tt : TT := fun σ2 H Q => ∃ R1 b, Same R1 H ∧ (∀ (s : Shared) (H : Hp) (C : Addr) (cl : List (Str × Addr)) (fp : List Addr), PTsD (X.blk s H scope (compEnvC scope cl C X.env) fp) ifs σ2 R1 b) ∧ ∀ H' R', Grow R1 H R' H' → Q b H'
  let te : TE := fun σ2 H Q => ∃ R1 e, Same R1 H ∧ (∀ (s : Shared) (H : Hp) (C : Addr) (cl : List (Str × Addr)) (fp : List Addr), PD (X.blk s H scope (compEnvC scope cl C X.env) fp) elt σ2 R1 e) ∧ ∀ v H' R', Grow R1 H R' H' → Dv X.K R' v e → Q v H'
  have ht : ∀ (s : Shared) (H : Hp) (C : Addr) (cl : List (Str × Addr)) (fp : List Addr), PTs (X.blk s H scope (compEnvC scope cl C X.env) fp) ifs tt := fun s0 H0 C cl fp => ⟨fun pins s σ H Q I h => by
    obtain ⟨R1, b, sb, p, k⟩ := h
    obtain ⟨t, h1, h2⟩ := p s0 H0 C cl fp
    exact h1.run pins s σ H Q I (h2 H Q sb k)⟩
  have he : ∀ (s : Shared) (H : Hp) (C : Addr) (cl : List (Str × Addr)) (fp : List Addr), PE (X.blk s H scope (compEnvC scope cl C X.env) fp) elt te := fun s0 H0 C cl fp => ⟨fun pins s σ H Q I h => by
    obtain ⟨R1, e, sb, p, k⟩ := h
    exact (p s0 H0 C cl fp).run pins s H Q I sb k⟩
  refine .of (pe_lc hc hN pi_pd ok hg ht he hs) fun H Q sb q => ⟨R, ds, sb, hi, fun J H1 R1 g1 w D hD => ?_⟩
  refine ⟨fun i m H2 => m = ds.length - i ∧ i ≤ ds.length ∧ ∃ R2 acc, Grow R1 H1 R2 H2 ∧ R2 D = none ∧ H2 D = some (.lst acc) ∧ DvAll X.K R2 acc ((ds.take i).filterMap f), ⟨ds.length, by simp, Nat.zero_le _, R1, [], Grow.hide g1.inn hD, g1.inn.free hD, upd_same, .nil⟩, ?_⟩
  rintro i m H2 ⟨rfl, hle, R2, acc, g2, r2, hD2, dvs⟩
  have lacc : acc.length ≤ i := by
    rw [DvAll.len dvs]
    exact Nat.le_trans (List.length_filterMap_le ..) (by rw [List.length_take]; exact Nat.min_le_left _ _)
  by_cases hlt : i < ds.length
  · refine .inr ⟨w.goes i R2 H2 g2.sub g2.inn hlt, fun H3 => ∃ R3 acc, Grow R1 H1 R3 H3 ∧ R3 D = none ∧ H3 D = some (.lst acc) ∧ DvAll X.K R3 acc ((ds.take (i + 1)).filterMap f), fun H3 h3 => ⟨ds.length - (i + 1), by omega, rfl, hlt, h3⟩, fun x H3 y => ?_⟩
    obtain ⟨R3, d, g3, ed, dv⟩ := w.yields i R2 H2 x H3 g2.sub g2.inn hlt y
    have off3 := g3.off r2 hD2
    refine turn d x R3 H3 _ (List.mem_of_getElem? ed) ((g1.sub.trans g2.sub).trans g3.sub) g3.inn dv fun σ2 hw ⟨b, hb, h1, h2⟩ => ⟨hw, R3, b, g3.inn, hb, fun H4 R4 g4 => ?_⟩
    have off4 := g4.off off3.1 off3.2
    have g14 := (g2.trans g3).trans g4
    have tk : (ds.take (i + 1)).filterMap f = (ds.take i).filterMap f ++ (f d).toList := by
      rw [take_next ed, List.filterMap_append]
      cases hf : f d with
      | none => simp [hf]
      | some z => simp [hf]
    cases b with
    | false =>
      rw [h2 rfl] at tk
      refine iteF ?_
      exact ⟨R4, acc, g14, off4.1, off4.2, by rw [tk]; simpa using DvAll_mono (g3.sub.trans g4.sub) dvs⟩
    | true =>
      obtain ⟨e, ef, pe⟩ := h1 rfl
      rw [ef] at tk
      refine iteT ?_
      refine ⟨R4, e, g4.inn, fun s0 H0 C cl fp => (pe s0 H0 C cl fp).mono g4.sub, fun v H5 R5 g5 dv5 => ?_⟩
      have off5 := g5.off off4.1 off4.2
      have g15 := g14.trans g5
      have nD1 : H1 D = none := hD
      refine ⟨acc, off5.2, Nat.lt_of_lt_of_le (Nat.lt_of_le_of_lt lacc hlt) hl, R5, acc ++ [v], ⟨fun c o ec => ?_, g15.sub, fun c o ec => ?_, g15.new⟩, off5.1, upd_same, ?_⟩
      · have hcD : c ≠ D := ne_of_none ec nD1
        rw [upd_ne hcD]
        exact g15.ext _ _ ec
      · have hcD : c ≠ D := fun z => by rw [z, off5.1] at ec; cases ec
        rw [upd_ne hcD]
        exact g15.inn _ _ ec
      · rw [tk]
        exact (DvAll_mono ((g3.sub.trans g4.sub).trans g5.sub) dvs).app (.cons dv5 .nil)
  · have ei : i = ds.length := by omega
    subst ei
    rw [List.take_length] at dvs
    refine .inl ⟨w.stops R2 H2 g2.sub g2.inn, q (.ref D) H2 (upd R2 D (.lst acc)) (g1.trans ⟨g2.ext, g2.sub.trans (same_upd r2), fun c o ec => ?_, fun c o ec => ?_⟩) (.lst upd_same (DvAll_mono (same_upd r2) dvs))⟩
    · by_cases hc : c = D
      · subst hc
        rw [upd_same] at ec
        rw [hD2]
        exact ec
      · rw [upd_ne hc] at ec
        exact g2.inn _ _ ec
    · by_cases hc : c = D
      · subst hc
        exact .inr hD
      · rw [upd_ne hc] at ec
        exact g2.new _ _ ec
/-- two names of a pair -/
theorem g_two {K : PySem.W.Frag} {i j : Nat} {v : V} {R1 H1 : Hp} {d1 d2 : PyData} {σ : L2.St} {k : L2.St → Hp → Prop} (s : Same R1 H1) (h : Dv K R1 v (.tuple [d1, d2])) (q : ∀ v1 v2, Dv K R1 v1 d1 → Dv K R1 v2 d2 → k ((σ.set i (some v1)).set j (some v2)) H1) :
    gTup K 2 (gCons (gName i) (gCons (gName j) gNil)) v σ H1 k := by
  obtain ⟨p, xs, rfl, hs, hx⟩ := h.tupE
  obtain ⟨v1, v2, rfl, a, b⟩ := DvAll.two' hx
  exact ⟨p, [v1, v2], rfl, same_tup s hs, rfl, v1, [v2], rfl, v2, [], rfl, rfl, q v1 v2 a b⟩
theorem g_three {K : PySem.W.Frag} {i j l : Nat} {v : V} {R1 H1 : Hp} {d1 d2 d3 : PyData} {σ : L2.St} {k : L2.St → Hp → Prop} (s : Same R1 H1) (h : Dv K R1 v (.tuple [d1, d2, d3])) (q : ∀ v1 v2 v3, Dv K R1 v1 d1 → Dv K R1 v2 d2 → Dv K R1 v3 d3 → k (((σ.set i (some v1)).set j (some v2)).set l (some v3)) H1) :
    gTup K 3 (gCons (gName i) (gCons (gName j) (gCons (gName l) gNil))) v σ H1 k := by
  obtain ⟨p, xs, rfl, hs, hx⟩ := h.tupE
  cases hx with
  | cons a r =>
    obtain ⟨v2, v3, rfl, b, c⟩ := DvAll.two' r
    exact ⟨p, _, rfl, same_tup s hs, rfl, _, _, rfl, v2, _, rfl, v3, [], rfl, rfl, q _ v2 v3 a b c⟩
theorem for_wd {K : PySem.W.Frag} {J : It} {R0 : Hp} {g : TG} {tb : TS} {D : Ends} {H : Hp} (w : WD K J R0 ds) (Pv : Nat → L2.St → Hp → Hp → Prop) (h0 : Same R0 H → Pv 0 σ R0 H) (hH : Same R0 H)
    (hs : ∀ (i : Nat) (d : PyData) (x : V) (σ : L2.St) (R H R' H' : Hp), ds[i]? = some d → Same R0 R → Same R H → Pv i σ R H → Grow R H R' H' → Dv K R' x d →
      g x σ H' fun σ2 H2 => tb { D with nx := fun σ' H' => ∃ R', Same R0 R' ∧ Same R' H' ∧ Pv (i + 1) σ' R' H', ct := fun σ' H' => ∃ R', Same R0 R' ∧ Same R' H' ∧ Pv (i + 1) σ' R' H', bk := D.nx } σ2 H2)
    (hd : ∀ σ R H, Same R0 R → Same R H → Pv ds.length σ R H → D.nx σ H) :
    ∃ W : Nat → Nat → L2.St → Hp → Prop, (∃ m, W 0 m σ H) ∧ ∀ i m σ H, W i m σ H →
      (J.stop i H ∧ D.nx σ H) ∨ (J.go i H ∧ ∃ N : L2.St → Hp → Prop, (∀ σ' H', N σ' H' → ∃ m', m' < m ∧ W (i + 1) m' σ' H') ∧ ∀ x H', J.yld i H x H' → g x σ H' fun σ2 H2 => tb { D with nx := N, ct := N, bk := D.nx } σ2 H2) := by
  refine ⟨fun i m σ H => m = ds.length - i ∧ i ≤ ds.length ∧ ∃ R, Same R0 R ∧ Same R H ∧ Pv i σ R H, ⟨ds.length, by simp, Nat.zero_le _, R0, Same.refl _, hH, h0 hH⟩, ?_⟩
  rintro i m σ H ⟨rfl, hi, R, s1, s2, p⟩
  by_cases hlt : i < ds.length
  · refine .inr ⟨w.goes i R H s1 s2 hlt, fun σ' H' => ∃ R', Same R0 R' ∧ Same R' H' ∧ Pv (i + 1) σ' R' H', fun σ' H' p' => ⟨ds.length - (i + 1), by omega, rfl, hlt, p'⟩, fun x H' y => ?_⟩
    obtain ⟨R', d, g', ed, dv⟩ := w.yields i R H x H' s1 s2 hlt y
    exact hs i d x σ R H R' H' ed s1 s2 p g' dv
  · have e : i = ds.length := by omega
    subst e
    exact .inl ⟨w.stops R H s1 s2, hd σ R H s1 s2 p⟩
end
end NF

set_option Elab.async false
set_option linter.all false
set_option maxRecDepth 100000
set_option maxHeartbeats 2000000
namespace NF
open PySem PySem.Spec PyProof.Rows L2

theorem SP_mono {X : Cx} {pins : List (Addr × Obj)} {D D' : Ends} {f : Flow} {s : Shared} (h : SP X pins D f s) (h1 : ∀ σ H, D.nx σ H → D'.nx σ H) (h2 : ∀ v H, D.rt v H → D'.rt v H) (h3 : ∀ σ H, D.bk σ H → D'.bk σ H) (h4 : ∀ σ H, D.ct σ H → D'.ct σ H) : SP X pins D' f s := by
  cases f with
  | next => obtain ⟨σ', H', I, q⟩ := h; exact ⟨σ', H', I, h1 _ _ q⟩
  | brk => obtain ⟨σ', H', I, q⟩ := h; exact ⟨σ', H', I, h3 _ _ q⟩
  | cont => obtain ⟨σ', H', I, q⟩ := h; exact ⟨σ', H', I, h4 _ _ q⟩
  | ret u => obtain ⟨v, σ', H', I, r, q⟩ := h; exact ⟨v, σ', H', I, r, h2 _ _ q⟩
/-- a body that hands back the data d -/
structure BD (X : Cx) (body : List Stmt) (σ : L2.St) (R : Hp) (d : PyData) : Prop where
  run : ∀ (pins : List (Addr × Obj)) (s : Shared) (H : Hp) (Q : VK), Inv X pins σ H s → Same R H → (∀ v H' R', Grow R H R' H' → Dv X.K R' v d → Q v H') →
    wpAny (model X.prog X.w) X.A (execs body X.env) (SP X pins { nx := fun _ _ => False, rt := Q }) X.xe s
def tBD (X : Cx) (body : List Stmt) : TS := fun D σ H => ∃ R d, Same R H ∧ BD X body σ R d ∧ ∀ v H' R', Grow R H R' H' → Dv X.K R' v d → D.rt v H'
theorem pss_bd {X : Cx} {body : List Stmt} : PSs X body (tBD X body) := ⟨fun pins s σ H D I h => by
  obtain ⟨R, d, sb, p, k⟩ := h
  exact thn (p.run pins s H D.rt I sb k) fun f s1 q => SP_mono q (fun _ _ z => z.elim) (fun _ _ z => z) (fun _ _ z => z.elim) (fun _ _ z => z.elim)⟩
section
variable {X : Cx} {e : Expr} {rest body : List Stmt} {σ : L2.St} {R R1 : Hp} {d d1 d2 : PyData} {pos pos' : Pos}
theorem BD.eq (h : BD X body σ R d) (q : d = d1) : BD X body σ R d1 := q ▸ h
theorem bd_ret (h : PD X e σ R d) : BD X (.Return (some e) pos :: rest) σ R d := ⟨fun pins s H Q I sb k =>
  wpAny_execs_cons (thn ((ps_ret pe_pd).run pins s σ H { nx := fun _ _ => False, rt := Q } I ⟨R, d, sb, h, k⟩) fun f s1 q => by
    cases f with
    | next => obtain ⟨_, _, _, z⟩ := q; exact z.elim
    | brk => exact q
    | cont => exact q
    | ret u => exact q)⟩
theorem bd_set (i : Nat) {x : Str} (nd : X.N.Nodup) (h : PD X e σ R d1) (q : ∀ v R1, Same R R1 → Dv X.K R1 v d1 → BD X rest (σ.set i (some v)) R1 d) (hi : X.N[i]? = some x := by rfl) (hx : Loc X.env.scope x := by first | exact Or.inl rfl | exact Or.inr rfl)
    (hs : swapsWith e (some (.Name x pos')) pos.line X.env = pure false := by rfl) (hf : X.fn x = true ∨ X.env.scope.names.lookup x = some .local := by first | exact .inl rfl | exact .inr rfl) : BD X (.Assign [.Name x pos'] e pos :: rest) σ R d := ⟨fun pins s H Q I sb k =>
  wpAny_execs_cons (thn ((ps_set nd hi hx pe_pd hs hf).run pins s σ H { nx := fun σ' H' => ∃ v R1, σ' = σ.set i (some v) ∧ Grow R H R1 H' ∧ Dv X.K R1 v d1, rt := Q } I ⟨R, d1, sb, h, fun v H' R' g dv => ⟨v, R', rfl, g, dv⟩⟩) fun f s1 q1 => by
    cases f with
    | next =>
      obtain ⟨_, H', I', v, R', rfl, g, dv⟩ := q1
      exact (q v R' g.sub dv).run pins s1 H' Q I' g.inn fun v2 H2 R2 g2 dv2 => k v2 H2 R2 (g.trans g2) dv2
    | brk => exact q1
    | cont => exact q1
    | ret u => exact q1)⟩
/-- a test whose way ahead hands back -/
theorem bd_if {c : Expr} {b : Bool} (hc : PTD X c σ R b) (ha : b = true → BD X body σ R d) (hb : b = false → BD X rest σ R d) : BD X (.If c body [] pos :: rest) σ R d := ⟨fun pins s H Q I sb k => by
  cases b with
  | true =>
    refine wpAny_execs_cons (thn ((ps_if pt_pd (pss_bd (body := body)) pss_nil).run pins s σ H { nx := fun _ _ => False, rt := Q } I ⟨R, true, sb, hc, fun H' R' g => ⟨R', d, g.inn, ?_, fun v2 H2 R2 g2 dv2 => k v2 H2 R2 (g.trans g2) dv2⟩⟩) fun f s1 q => ?_)
    · exact ⟨fun pins' s' H2 Q2 I2 sb2 k2 => (ha rfl).run pins' s' H2 Q2 I2 (g.sub.trans sb2) fun v H3 R3 g3 dv => by
        obtain ⟨g4, s4⟩ := g3.wide g.sub sb2
        exact k2 v H3 _ g4 (Dv_mono s4 dv)⟩
    · cases f with
      | next => obtain ⟨_, _, _, z⟩ := q; exact z.elim
      | brk => exact q
      | cont => exact q
      | ret u => exact q
  | false =>
    refine wpAny_execs_cons (thn ((ps_if pt_pd (pss_never (sts := body)) pss_nil).run pins s σ H { nx := fun σ' H' => σ' = σ ∧ ∃ R', Grow R H R' H', rt := Q } I ⟨R, false, sb, hc, fun H' R' g => iteF ⟨rfl, R', g⟩⟩) fun f s1 q => ?_)
    cases f with
    | next =>
      obtain ⟨_, H', I', rfl, R', g⟩ := q
      refine (hb rfl).run pins s1 H' Q I' (g.sub.trans g.inn) fun v H3 R3 g3 dv => ?_
      obtain ⟨g4, s4⟩ := g3.wide g.sub g.inn
      exact k v H3 _ (g.trans g4) (Dv_mono s4 dv)
    | brk => exact q
    | cont => exact q
    | ret u => exact q⟩
end
/-- where a def of the text stands -/
structure At (K : PySem.W.Frag) (mg : Str → Option Value) (x : Str) (st : Stmt) (ps : List Str) : Prop where
  ex : ∃ (f : Addr) (fd : FuncData), Fun K x x st f fd ∧ mg x = some (.ref f) ∧ Binds K fd ps []
abbrev dcx (P : Program) (w : World) (K : PySem.W.Frag) (mg : Str → Option Value) (base : Heap) (N : List Str) (x : Str) (sc : Scope) (f : Addr) (cdv : Value) (A : Around) (outer : List Env) (s : Shared) (H : Hp) (E : XK) : Cx := (cxOf CX0 P w K mg base N x sc f cdv A outer s H E).nox
section
variable {P : Program} {w : World} {K : PySem.W.Frag} {mg : Str → Option Value} {base : Heap}
/-- any promise, by the body's own reading -/
theorem df_sp {x : Str} {st : Stmt} {N ps : List Str} {k : Nat} {sp : Sp} (F : At K mg x st ps) (S : FnScope N ps (defScope st)) (len : ∀ vs H Q E, sp vs H Q E → vs.length = ps.length)
    (body : ∀ (f : Addr) (cdv : Value) (A : Around) (outer : List Env) (s : Shared) (H : Hp) (E : XK) (vs : List V) (Q : VK), Room k (A.deeper (envOfC x (defScope st) s.heap.objs.size f cdv)) → sp vs H Q E →
      ∃ t, PSs (dcx P w K mg base N x (defScope st) f cdv A outer s H E) (defBody st) t ∧ t { nx := fun _ H' => Q .non H', rt := Q } (start N vs) H) : Df P w K mg base (k + 1) x ps sp := by
  obtain ⟨f, fd, Fn, hm, hb⟩ := F
  exact ⟨f, fd, Fn.ok S len fun cdv A outer s H vs Q E hr h => body f cdv A outer s H E vs Q hr h, hm, Fn.kp, hb⟩
theorem df_mk {x : Str} {st : Stmt} {N ps : List Str} {k : Nat} {pre : List PyData → PyData → Prop} (F : At K mg x st ps) (S : FnScope N ps (defScope st)) (len : ∀ ds d, pre ds d → ds.length = ps.length)
    (body : ∀ (f : Addr) (cdv : Value) (A : Around) (outer : List Env) (s : Shared) (H : Hp) (E : XK) (vs : List V) (R : Hp) (ds : List PyData) (d : PyData), Room k (A.deeper (envOfC x (defScope st) s.heap.objs.size f cdv)) → DvAll K R vs ds → pre ds d →
      BD (dcx P w K mg base N x (defScope st) f cdv A outer s H E) (defBody st) (start N vs) R d) : Df P w K mg base (k + 1) x ps (spD K pre) := by
  refine df_sp F S (fun vs H Q E h => ?_) fun f cdv A outer s H E vs Q hr h => ?_
  · obtain ⟨R, ds, d, sb, dv, hp, _⟩ := h
    rw [DvAll.len dv, len _ _ hp]
  · obtain ⟨R, ds, d, sb, dv, hp, k⟩ := h
    exact ⟨_, pss_bd, R, d, sb, body f cdv A outer s H E vs R ds d hr dv hp, k⟩
end
end NF

set_option Elab.async false
set_option linter.all false
set_option maxRecDepth 100000
set_option maxHeartbeats 2000000
namespace NF
open PySem PySem.Spec PyProof.Rows L2
section
variable {X : Cx}
def rMinT (K : PySem.W.Frag) : List V → Hp → VK → Prop := fun vs H Q => ∃ (a : Addr) (ns : List Int), vs = [V.ref a] ∧ SqT K H a (ns.map V.int) ∧ 0 < ns.length ∧ ∀ m, m ∈ ns → (∀ j ∈ ns, m ≤ j) → Q (.int m) H
theorem cr_minT (hc : X.calm = true) : CallR X (.builtin "min") (rMinT X.K) := by
  intro pins s σ H vs us Q I r h
  obtain ⟨a, ns, rfl, ha, hne, q⟩ := h
  rw [Vals.ref1 r]
  obtain ⟨its, rv, p, _⟩ := I.tuple ha
  have hi : IntsAre its ns := Vals.ints rv
  have hl : its.toArray.size = ns.length := by rw [List.size_toArray]; exact hi.length
  have hT : s.heap.IsTuple a its.toArray := p
  have hlt : a < s.heap.objs.size := p.lt
  have hval : ∀ (i : Nat) (v : Value), its.toArray[i]? = some v → ∃ t, v = Value.int (ns.getD i 0) t := fun i v e => by
    have hlt2 : i < its.length := by
      have := (List.getElem?_eq_some_iff.mp (show its[i]? = some v by simpa using e)).1
      exact this
    have e' : its[i]? = some v := by simpa using e
    have hz : ∃ t, v = Value.int (ns.getD i 0) t := PyProof.Rows.IntsAre.int_at hi i v e'
    exact hz
  refine call_min_walk (wpAny_pyIter_tuple hT ?_)
  refine ⟨_, _, _, _, _, _, _, rfl, Walks.tuple (A := X.A.in1) (I.ok.hd hc) s.heap.objs.size a (Nat.ne_of_lt hlt) its.toArray,
    ⟨⟨_, Heap.get?_push_size _ rfl, rfl, rfl⟩, hT.at fun o e => Heap.get?_push_of_some _ e⟩, fun b hb => ?_, by rw [hl]; exact hne, CmpOf.ints_lt (fun i => ns.getD i 0) hval, fun v h' tk hP hk => ?_⟩
  · show b < (s.heap.push _).objs.size
    rw [Heap.size_push]
    rcases List.mem_cons.mp hb with e | hb
    · rw [e]
      exact Nat.lt_succ_self _
    · rw [List.mem_singleton.mp hb]
      exact Nat.lt_succ_of_lt hlt
  · obtain ⟨t, rfl⟩ := hval _ v hP
    obtain ⟨b1, b2⟩ := argBest_lt (fun i => ns.getD i 0) (its.toArray.size - 1)
    refine ⟨.int _, H, I.kept (t' := tk) fun b u e => hk b u (fun hmem => ?_) (Heap.get?_push_of_some _ e), ⟨t, rfl⟩, q _ ?_ fun j hj => ?_⟩
    · have e1 : b = s.heap.objs.size := List.mem_singleton.mp hmem
      have e2 := Heap.lt_size e
      rw [e1] at e2
      exact absurd e2 (Nat.lt_irrefl _)
    · have hb : argBest (fun i j => decide (ns.getD i 0 < ns.getD j 0)) (its.toArray.size - 1) < ns.length := by omega
      rw [List.getD_eq_getElem?_getD, List.getElem?_eq_getElem hb]
      exact List.getElem_mem hb
    · obtain ⟨i, hi, e⟩ := List.mem_iff_getElem.mp hj
      have e2 : ns.getD i 0 = j := by rw [List.getD_eq_getElem?_getD, List.getElem?_eq_getElem hi, ← e] <;> rfl
      rw [← e2]
      exact b2 i (by omega)
def rInDT (K : PySem.W.Frag) : R2 := fun x y H Q => ∃ d ds, Dp K H x d ∧ Dp K H y (.tuple ds) ∧ SeqAt.shaped d = true ∧ SeqAt.shaped (.tuple ds) = true ∧ Q (.bl (ds.any fun z => PyData.eqv z d)) H
theorem op_inDT (hu : X.A.units + 65 < cLine) : OpR X (compareOp .In) (rInDT X.K) := by
  intro pins s σ H x y v u Q I rx ry h
  obtain ⟨d, ds, hd, he, sd, se, q⟩ := h
  obtain ⟨as, r1⟩ := Dp.reads I d x v hd rx
  obtain ⟨bs, r2⟩ := Dp.reads I (.tuple ds) y u he ry
  exact SeqAt.in_tuple_reads r2 r1 (SeqAt.canLay_of_shaped (show SeqAt.shaped (.tuple ds) = true from se)) (SeqAt.canLay_of_shaped sd) (room_in_shaped sd hu) ⟨.bl _, H, I, rfl, q⟩
variable {e a b : Expr} {σ : L2.St} {R : Hp} {d d1 : PyData} {ds : List PyData} {pos p : Pos}
theorem pd_min {ns : List Int} {m : Int} (hc : X.calm = true) (B : Blt X.mg) (ha : PD X e σ R (.tuple (ns.map .int))) (hm : m ∈ ns) (hle : ∀ j ∈ ns, m ≤ j) (hg : Gl X "min" := by rfl) (he : starEach [e] X.env = (false, eval e X.env) :: starEach [] X.env := by rfl) : PD X (.Call (.Name "min" p) [e] [] pos) σ R (.int m) :=
  pd_bf (cr_minT hc) B.min (by decide +kernel) (pds_cons ha pds_nil he) (fun vs R1 H1 Q _ s1 dvs k => by
    obtain ⟨v, rfl, dv⟩ := DvAll.one' dvs
    obtain ⟨p, rfl, hs⟩ := Dv.tupI dv
    refine ⟨p, ns, rfl, same_tup s1 hs, List.length_pos_of_mem hm, fun m' h1 h2 => ?_⟩
    have e : m' = m := Int.le_antisymm (h2 m hm) (hle m' h1)
    subst e
    exact k _ H1 R1 (Grow.refl s1) (.int _)) hg (by decide) (by decide) he
theorem pd_inT (hu : X.A.units + 65 < cLine) (ha : PD X a σ R d) (hb : PD X b σ R (.tuple ds)) (s1 : SeqAt.shaped d = true) (s2 : SeqAt.shaped (.tuple ds) = true) (hm : behindInMarks .In b = false := by rfl) : PD X (.Compare a [.In] [b] pos) σ R (.bool (ds.any fun z => PyData.eqv z d)) :=
  pd_cmp (op_inDT hu) ha hb (fun x y H Q h1 h2 q => ⟨_, _, h1.dp, h2.dp, s1, s2, q⟩) hm
theorem pd_inL (hu : X.A.units + 65 < cLine) (ha : PD X a σ R d) (hb : PD X b σ R (.list ds)) (s1 : SeqAt.shaped d = true) (s2 : SeqAt.shaped (.list ds) = true) (hm : behindInMarks .In b = false := by rfl) : PD X (.Compare a [.In] [b] pos) σ R (.bool (ds.any fun z => PyData.eqv z d)) :=
  pd_cmp (op_inD hu) ha hb (fun x y H Q h1 h2 q => ⟨_, _, h1.dp, h2.dp, s1, s2, q⟩) hm
theorem DvAll.rev {K : PySem.W.Frag} {H : Hp} : ∀ {xs : List V} {ds : List PyData}, DvAll K H xs ds → DvAll K H xs.reverse ds.reverse
  | _, _, .nil => .nil
  | _, _, .cons a b => by
    rw [List.reverse_cons, List.reverse_cons]
    exact (DvAll.rev b).app (.cons a .nil)
theorem pd_rev {k : Nat} {p1 p2 p3 : Pos} (ha : PD X e σ R (.list ds)) : PD X (.Subscript e (.Slice none none (some (.UnaryOp .USub (.Constant (.int 1) k p1) p2)) p3) pos) σ R (.list ds.reverse) :=
  .of (pe_revL pe_pd) fun H Q sb k => ⟨R, _, sb, ha, fun v H1 R1 g dv => by
    obtain ⟨p, xs, rfl, hs, hx⟩ := dv.lstE
    exact ⟨p, xs, rfl, SqL.of (g.inn _ _ hs), fun q hq => k _ _ _ (g.trans (Grow.add g.inn hq)) (.lst upd_same (DvAll_mono (same_upd (g.inn.free hq)) hx.rev))⟩⟩
theorem DvAll.range {K : PySem.W.Frag} {H : Hp} (n : Nat) : DvAll K H (rgV 0 (n : Int)) (rangeD n) := by
  unfold rgV rangeD
  have e : ((n : Int) - 0).toNat = n := by omega
  rw [e]
  induction List.range n with
  | nil => exact .nil
  | cons a l ih =>
    rw [List.map_cons, List.map_cons, Int.zero_add]
    exact .cons (.int _) ih
theorem pd_listRange {n : Nat} {p1 p2 : Pos} (hc : X.calm = true) (B : Blt X.mg) (ha : PD X e σ R (.int (n : Int))) (hn : n ≤ 1000) (hg : Gl X "list" := by rfl) (hg2 : Gl X "range" := by rfl)
    (he : starEach [.Call (.Name "range" p1) [e] [] p2] X.env = (false, eval (.Call (.Name "range" p1) [e] [] p2) X.env) :: starEach [] X.env := by rfl) (he2 : starEach [e] X.env = (false, eval e X.env) :: starEach [] X.env := by rfl) :
    PD X (.Call (.Name "list" p) [.Call (.Name "range" p1) [e] [] p2] [] pos) σ R (.list (rangeD n)) :=
  .of (pe_listRg hc hg B.list (prg_1 hg2 B.range pe_pd he2) he) fun H Q sb k => ⟨R, _, sb, ha, fun v H1 R1 g dv => by
    cases dv
    exact ⟨(n : Int), rfl, RgOk.of_le (Int.le_refl _) (by omega) (by omega) (by omega), fun q hq => k _ _ _ (g.trans (Grow.add g.inn hq)) (.lst upd_same (DvAll.range n))⟩⟩
end
end NF

set_option linter.all false
namespace NF
abbrev Ver := List Int
theorem vlt_irrefl (a : Ver) : ¬ a < a := List.lt_irrefl a
theorem vlt_trans {a b c : Ver} (h : a < b) (h' : b < c) : a < c := List.lt_trans h h'
theorem vlt_asymm {a b : Ver} (h : a < b) : ¬ b < a := fun h' => vlt_irrefl a (vlt_trans h h')
theorem vlt_tri : ∀ a b : Ver, a < b ∨ a = b ∨ b < a
  | [], [] => .inr (.inl rfl)
  | [], _ :: _ => .inl (List.nil_lt_cons _ _)
  | _ :: _, [] => .inr (.inr (List.nil_lt_cons _ _))
  | x :: xs, y :: ys => by
    rcases Int.lt_trichotomy x y with h | h | h
    · exact .inl (List.cons_lt_cons_iff.mpr (.inl h))
    · subst h
      rcases vlt_tri xs ys with h | h | h
      · exact .inl (List.cons_lt_cons_iff.mpr (.inr ⟨rfl, h⟩))
      · exact .inr (.inl (by rw [h]))
      · exact .inr (.inr (List.cons_lt_cons_iff.mpr (.inr ⟨rfl, h⟩)))
    · exact .inr (.inr (List.cons_lt_cons_iff.mpr (.inl h)))
/-- not above -/
def vle (a b : Ver) : Prop := ¬ b < a
instance (a b : Ver) : Decidable (vle a b) := inferInstanceAs (Decidable (¬ b < a))
theorem vle_refl (a : Ver) : vle a a := vlt_irrefl a
theorem vle_of_lt {a b : Ver} (h : a < b) : vle a b := vlt_asymm h
theorem vle_iff {a b : Ver} : vle a b ↔ a < b ∨ a = b := by
  constructor
  · intro h
    rcases vlt_tri a b with q | q | q
    · exact .inl q
    · exact .inr q
    · exact absurd q h
  · rintro (h | rfl)
    · exact vle_of_lt h
    · exact vle_refl a
theorem vlt_of_le_of_lt {a b c : Ver} (h : vle a b) (h' : b < c) : a < c := by
  rcases vle_iff.mp h with q | rfl
  · exact vlt_trans q h'
  · exact h'
theorem vlt_of_lt_of_le {a b c : Ver} (h : a < b) (h' : vle b c) : a < c := by
  rcases vle_iff.mp h' with q | rfl
  · exact vlt_trans h q
  · exact h
theorem vle_trans {a b c : Ver} (h : vle a b) (h' : vle b c) : vle a c := fun q => h (vlt_of_le_of_lt h' q)
theorem vnot_le {a b : Ver} : ¬ vle a b ↔ b < a := by
  constructor
  · intro h
    rcases vlt_tri a b with q | q | q
    · exact absurd (vle_of_lt q) h
    · subst q; exact absurd (vle_refl a) h
    · exact q
  · intro h q
    exact q h
theorem vlt_of_not {a b : Ver} (h : ¬ vle a b) : b < a := vnot_le.mp h
theorem vle_antisymm {a b : Ver} (h : vle a b) (h' : vle b a) : a = b := by
  rcases vlt_tri a b with q | q | q
  · exact absurd q h'
  · exact q
  · exact absurd q h

def Asc (l : List Ver) : Prop := l.Pairwise (· < ·)
theorem asc_ext : ∀ {l m : List Ver}, Asc l → Asc m → (∀ v, v ∈ l ↔ v ∈ m) → l = m
  | [], [], _, _, _ => rfl
  | [], y :: m, _, _, h => absurd ((h y).mpr List.mem_cons_self) (by simp)
  | x :: l, [], _, _, h => absurd ((h x).mp List.mem_cons_self) (by simp)
  | x :: l, y :: m, hl, hm, h => by
    have hl' := List.pairwise_cons.mp hl
    have hm' := List.pairwise_cons.mp hm
    have exy : x = y := by
      rcases List.mem_cons.mp ((h x).mp List.mem_cons_self) with q | q
      · exact q
      · rcases List.mem_cons.mp ((h y).mpr List.mem_cons_self) with r | r
        · exact r.symm
        · exact absurd (hl'.1 y r) (vlt_asymm (hm'.1 x q))
    subst exy
    have e : l = m := asc_ext hl'.2 hm'.2 fun v => by
      constructor
      · intro hv
        rcases List.mem_cons.mp ((h v).mp (List.mem_cons_of_mem _ hv)) with q | q
        · subst q; exact absurd (hl'.1 v hv) (vlt_irrefl v)
        · exact q
      · intro hv
        rcases List.mem_cons.mp ((h v).mpr (List.mem_cons_of_mem _ hv)) with q | q
        · subst q; exact absurd (hm'.1 v hv) (vlt_irrefl v)
        · exact q
    rw [e]
/-- put in its place, if it isn't there -/
def ins (v : Ver) : List Ver → List Ver
  | [] => [v]
  | x :: l => if v < x then v :: x :: l else if x < v then x :: ins v l else x :: l
def settle : List Ver → List Ver
  | [] => []
  | v :: l => ins v (settle l)
theorem mem_ins {v u : Ver} : ∀ {l : List Ver}, u ∈ ins v l ↔ u = v ∨ u ∈ l
  | [] => by simp [ins]
  | x :: l => by
    unfold ins
    by_cases h1 : v < x
    · rw [if_pos h1]; simp
    · rw [if_neg h1]
      by_cases h2 : x < v
      · rw [if_pos h2, List.mem_cons, mem_ins, List.mem_cons]
        constructor
        · rintro (h | h | h)
          · exact .inr (.inl h)
          · exact .inl h
          · exact .inr (.inr h)
        · rintro (h | h | h)
          · exact .inr (.inl h)
          · exact .inl h
          · exact .inr (.inr h)
      · rw [if_neg h2]
        have e : v = x := by
          rcases vlt_tri v x with q | q | q
          · exact absurd q h1
          · exact q
          · exact absurd q h2
        subst e
        simp
theorem asc_ins {v : Ver} : ∀ {l : List Ver}, Asc l → Asc (ins v l)
  | [], _ => by simp [ins, Asc]
  | x :: l, h => by
    obtain ⟨h1, h2⟩ := List.pairwise_cons.mp h
    unfold ins
    by_cases q1 : v < x
    · rw [if_pos q1]
      refine List.pairwise_cons.mpr ⟨fun u hu => ?_, h⟩
      rcases List.mem_cons.mp hu with rfl | hu
      · exact q1
      · exact vlt_trans q1 (h1 u hu)
    · rw [if_neg q1]
      by_cases q2 : x < v
      · rw [if_pos q2]
        refine List.pairwise_cons.mpr ⟨fun u hu => ?_, asc_ins h2⟩
        rcases mem_ins.mp hu with rfl | hu
        · exact q2
        · exact h1 u hu
      · rw [if_neg q2]
        exact h
theorem mem_settle {u : Ver} : ∀ {l : List Ver}, u ∈ settle l ↔ u ∈ l
  | [] => by simp [settle]
  | v :: l => by rw [settle, mem_ins, mem_settle, List.mem_cons]
theorem asc_settle : ∀ l : List Ver, Asc (settle l)
  | [] => by simp [settle, Asc]
  | v :: l => asc_ins (asc_settle l)
theorem settle_eq {l m : List Ver} (h : Asc m) (hm : ∀ v, v ∈ m ↔ v ∈ l) : m = settle l := asc_ext h (asc_settle l) fun v => by rw [hm, mem_settle]
theorem settle_congr {l m : List Ver} (h : ∀ v, v ∈ l ↔ v ∈ m) : settle l = settle m := settle_eq (asc_settle l) fun v => by rw [mem_settle, h]
/-- the sort of ours -/
def vleB (a b : Ver) : Bool := !decide (b < a)
theorem vleB_iff {a b : Ver} : vleB a b = true ↔ vle a b := by
  unfold vleB vle
  rw [Bool.not_eq_true', decide_eq_false_iff_not]
def vsort (l : List Ver) : List Ver := l.mergeSort vleB
theorem vsort_perm (l : List Ver) : (vsort l).Perm l := List.mergeSort_perm l vleB
theorem vsort_pairwise (l : List Ver) : (vsort l).Pairwise vle := by
  have h := List.pairwise_mergeSort (le := vleB) (fun a b c h1 h2 => vleB_iff.mpr (vle_trans (vleB_iff.mp h1) (vleB_iff.mp h2))) (fun a b => by
    rw [Bool.or_eq_true, vleB_iff, vleB_iff]
    rcases vlt_tri a b with q | q | q
    · exact .inl (vle_of_lt q)
    · subst q; exact .inl (vle_refl a)
    · exact .inr (vle_of_lt q)) l
  exact h.imp fun h => vleB_iff.mp h
theorem asc_of_nodup {l : List Ver} (h : l.Pairwise vle) (hn : l.Nodup) : Asc l := by
  refine (h.and hn).imp fun {a b} ⟨h1, h2⟩ => ?_
  rcases vle_iff.mp h1 with q | q
  · exact q
  · exact absurd q h2
theorem vsort_settle {l m : List Ver} (hn : l.Nodup) (hm : ∀ v, v ∈ l ↔ v ∈ m) : vsort l = settle m :=
  settle_eq (asc_of_nodup (vsort_pairwise l) ((vsort_perm l).nodup_iff.mpr hn)) fun v => by rw [(vsort_perm l).mem_iff, hm]
theorem asc_nodup {l : List Ver} (h : Asc l) : l.Nodup := by
  refine h.imp fun {a b} q => ?_
  intro e
  subst e
  exact vlt_irrefl _ q
end NF

set_option Elab.async false
set_option linter.all false
set_option maxRecDepth 100000
set_option maxHeartbeats 2000000
namespace NF
open PySem PySem.Spec PyProof.Rows L2
/-- a tuple of these ints stands at a -/
def TupV (h : Heap) (a : Addr) (ns : List Int) : Prop := ∃ o items n, h.get? a = some o ∧ o.cls = .type "tuple" ∧ o.data = .seq items n ∧ IntsAre items.toList ns
theorem TupV.keeps {h h' : Heap} {a : Addr} {ns : List Int} (x : TupV h a ns) (k : ∀ o, h.get? a = some o → h'.get? a = some o) : TupV h' a ns := by
  obtain ⟨o, items, n, ho, r⟩ := x
  exact ⟨o, items, n, k o ho, r⟩
theorem readsInts {h : Heap} : ∀ {us : List Value} {ns : List Int}, IntsAre us ns → ReadsAll h us (ns.map .int) []
  | _, _, .nil => .nil
  | _, _, .cons n t r => ReadsAll.cons (as := []) (bs := []) (.int n t) (readsInts r)
theorem TupV.reads {h : Heap} {a : Addr} {ns : List Int} (x : TupV h a ns) : Reads h (.ref a) (tupI ns) [] := by
  obtain ⟨o, items, n, ho, hc, hd, hi⟩ := x
  exact .tuple ho hc hd (readsInts hi)
theorem tupV_of {X : Cx} {pins : List (Addr × Obj)} {σ : L2.St} {H : Hp} {s : Shared} {a : Addr} {ns : List Int} (I : Inv X pins σ H s) (h : SqT X.K H a (ns.map V.int)) : TupV s.heap a ns := by
  obtain ⟨its, r, ⟨o, ho, hc, n, hd⟩, _⟩ := I.tuple h
  exact ⟨o, its.toArray, n, ho, hc, hd, by simpa using Vals.ints r⟩
abbrev PV := Addr × List Int
def pleB (p q : PV) : Bool := vleB p.2 q.2
theorem le_pairs : PySem.W.dataLe (β := PV) false (fun b => tupI b.2) = pleB := by
  funext p q
  rw [PySem.W.dataLe_eq]
  show (!PySem.W.dataLt (tupI q.2) (tupI p.2)) = vleB p.2 q.2
  unfold tupI
  rw [PySem.W.dataLt_tuple]
  show (!PySem.W.rowLt (q.2.map .int) (p.2.map .int)) = vleB p.2 q.2
  rw [PySem.W.dataLt_ints]
  rfl
theorem alike_pairs (bs : List PV) : PySem.W.AllAlike (bs.map fun b => tupI b.2) := PySem.W.AllAlike.of fun b b' => by
  show PySem.W.alike (.tuple _) (.tuple _) = true
  rw [PySem.W.alike]
  exact PySem.W.alike_ints _ _
theorem sortable_pairs {bs : List PV} (h : ∀ p ∈ bs, p.2 ≠ []) : PySem.W.Sortable (bs.map fun b => tupI b.2) := .inl fun d hd => by
  obtain ⟨b, hb, rfl⟩ := List.mem_map.mp hd
  cases e : b.2 with
  | nil => exact absurd e (h b hb)
  | cons x r => exact ⟨.int x, r.map .int, rfl⟩
theorem depth_tupI (ns : List Int) : (tupI ns).depth = 1 := by
  unfold tupI
  rw [PyData.depth, PySem.W.depth_ints]
abbrev refOf (p : PV) : Value := .ref p.1
theorem each_refs : ∀ bs : List PV, PySem.W.EachIs (fun v (b : PV) => v = Value.ref b.1) (bs.map refOf) bs
  | [] => .nil
  | b :: bs => .cons rfl (each_refs bs)
theorem of_each : ∀ {out : List Value} {bs : List PV}, PySem.W.EachIs (fun v (b : PV) => v = Value.ref b.1) out bs → out = bs.map refOf
  | _, _, .nil => rfl
  | _, _, .cons e t => by rw [e, of_each t]; rfl
theorem each_reads {h : Heap} : ∀ {bs : List PV}, (∀ p ∈ bs, TupV h p.1 p.2) → PySem.W.EachIs (fun v (b : PV) => ∃ as, Reads h v (tupI b.2) as) (bs.map refOf) bs
  | [], _ => .nil
  | b :: bs, h => .cons ⟨[], (h b List.mem_cons_self).reads⟩ (each_reads fun p hp => h p (List.mem_cons_of_mem _ hp))
theorem each_reads' {h : Heap} {a : Addr} : ∀ {bs : List PV}, (∀ p ∈ bs, TupV h p.1 p.2) → PySem.W.EachIs (fun v (b : PV) => ∃ as, Reads h v (tupI b.2) as ∧ a ∉ as) (bs.map refOf) bs
  | [], _ => .nil
  | b :: bs, h => .cons ⟨[], (h b List.mem_cons_self).reads, by simp⟩ (each_reads' fun p hp => h p (List.mem_cons_of_mem _ hp))
def psort (bs : List PV) : List PV := bs.mergeSort pleB
theorem psort_perm (bs : List PV) : (psort bs).Perm bs := List.mergeSort_perm bs pleB
theorem psort_snd (bs : List PV) : (psort bs).map (·.2) = vsort (bs.map (·.2)) := by
  unfold psort vsort
  exact PySem.W.sort_maps (r := pleB) (s := vleB) (fun p : PV => p.2) fun a _ b _ => rfl
section
variable {prog : Program} {w : World} {A : Around} {E : Value → Shared → Prop} {s : Shared}
/-- the list of bs at a sorted -/
theorem sort_vers {a : Addr} {bs : List PV} {n : Nat} {Q : Value → Shared → Prop} (ho : s.heap.get? a = some (seqObj "list" (bs.map refOf).toArray n)) (ht : ∀ p ∈ bs, TupV s.heap p.1 p.2) (hne : ∀ p ∈ bs, p.2 ≠ []) (hL : bs.length ≤ sizeLine) (hu : A.units + 2 < cLine)
    (h : Q .none { s with heap := sortedHeap s.heap a (bs.map refOf) ((psort bs).map refOf).toArray }) : wpAny (model prog w) A (call (.builtin "list.sort") [.ref a]) Q E s := by
  refine PySem.W.list_sort_data (β := PV) (enc := fun b => tupI b.2) (R := fun v b => v = Value.ref b.1) ho (each_refs bs) (each_reads' ht) (alike_pairs bs) (sortable_pairs hne) hL (fun b _ => by rw [depth_tupI]; omega) fun out _ e => ?_
  rw [le_pairs] at e
  rw [of_each e]
  exact h
theorem sorted_vers {l : Addr} {bs : List PV} {Q : Value → Shared → Prop} (hl : s.heap.IsList l (bs.map refOf).toArray) (ht : ∀ p ∈ bs, TupV s.heap p.1 p.2) (hne : ∀ p ∈ bs, p.2 ≠ []) (hL : bs.length ≤ sizeLine) (hu : A.units + 3 < cLine)
    (h : Q (.ref (s.heap.objs.size + 1)) { s with heap := sortedAll s.heap (bs.map refOf) ((psort bs).map refOf).toArray }) : wpAny (model prog w) A (call (.builtin "sorted") [.ref l]) Q E s := by
  refine PySem.W.sorted_data (β := PV) (enc := fun b => tupI b.2) (R := fun v b => v = Value.ref b.1) hl (each_refs bs) (each_reads ht) (alike_pairs bs) (sortable_pairs hne) hL (fun b _ => by rw [depth_tupI]; omega) fun out _ e => ?_
  rw [le_pairs] at e
  rw [of_each e]
  exact h
/-- sorted of what is collected: the collected keys bs stand in a new list, which is sorted -/
theorem sorted_of {x : Value} {Q : Value → Shared → Prop}
    (hc : wpAny (model prog w) A.in1 (collect x) (fun us s1 => ∃ bs : List PV, us = bs.map refOf ∧ (∀ p ∈ bs, TupV s1.heap p.1 p.2) ∧ (∀ p ∈ bs, p.2 ≠ []) ∧ bs.length ≤ sizeLine ∧
      ∀ (h' : Heap) (n : Nat), (∀ b o, s1.heap.get? b = some o → h'.get? b = some o) → h'.get? s1.heap.objs.size = some (seqObj "list" ((psort bs).map refOf).toArray n) → Q (.ref s1.heap.objs.size) { s1 with heap := h' }) E s) (hu : A.units + 3 < cLine) :
    wpAny (model prog w) A (call (.builtin "sorted") [x]) Q E s := by
  refine Calls.call_function_entry kind_sorted plain_sorted entry_sorted (args_sorted1 _) ?_
  unfold Builtin.«sorted»
  refine wpAny_bind (m := checkCount "sorted" 1 1 _) (wpAny_pure ?_)
  refine wpAny_bind (wpAny_mono hc (fun us s1 h1 => ?_) fun _ _ e => e)
  obtain ⟨bs, rfl, ht, hne, hL, hQ⟩ := h1
  refine wpAny_bind (wpAny_newList ?_ (by rw [List.length_map]; exact hL))
  have hoL : (s1.heap.push (seqObj "list" (bs.map refOf).toArray 0)).get? s1.heap.objs.size = some (seqObj "list" (bs.map refOf).toArray 0) := Heap.get?_push_size _ rfl
  refine wpAny_bind (wpAny_holding (sort_vers (s := { s1 with heap := s1.heap.push (seqObj "list" (bs.map refOf).toArray 0) }) hoL (fun p hp => (ht p hp).keeps fun o e => Heap.get?_push_of_some _ e) hne hL (by show A.units + 1 + 2 < cLine; omega) ?_))
  obtain ⟨n, hn⟩ := sortedHeap_at (vs := bs.map refOf) (out := ((psort bs).map refOf).toArray) hoL
  refine wpAny_pure ⟨_, rfl, hQ _ n (fun b o e => ?_) hn⟩
  have hlt := Heap.lt_size e
  rw [sortedHeap_old (Nat.ne_of_lt hlt) (by rw [size_push']; exact Nat.lt_succ_of_lt hlt)]
  exact Heap.get?_push_of_some _ e
end
theorem vals_pv : ∀ (bs : List PV), Vals (bs.map fun p => V.ref p.1) (bs.map refOf)
  | [] => .nil
  | _ :: bs => .cons rfl (vals_pv bs)
theorem refs_pv : ∀ {bs : List PV} {us : List Value}, Vals (bs.map fun p => V.ref p.1) us → us = bs.map refOf
  | [], _, .nil => rfl
  | _ :: bs, _, .cons r t => by
    cases r
    rw [refs_pv t] <;> rfl
/-- a list of versions as data, by addresses -/
theorem DvAll.pvs {K : PySem.W.Frag} {H : Hp} : ∀ {vs : List Ver} {xs : List V}, DvAll K H xs (vs.map tupI) → ∃ bs : List PV, xs = bs.map (fun p => V.ref p.1) ∧ bs.map (·.2) = vs ∧ ∀ p ∈ bs, SqT K H p.1 (p.2.map V.int)
  | [], _, h => by
    cases h
    exact ⟨[], rfl, rfl, fun p hp => nomatch hp⟩
  | v :: vs, _, h => by
    cases h with
    | cons a b =>
      obtain ⟨q, rfl, hq⟩ := Dv.tupI a
      obtain ⟨bs, rfl, e, hs⟩ := DvAll.pvs b
      refine ⟨(q, v) :: bs, rfl, by rw [List.map_cons, e], fun p hp => ?_⟩
      rcases List.mem_cons.mp hp with rfl | hp
      · exact hq
      · exact hs p hp
theorem DvAll.ofPvs {K : PySem.W.Frag} {H : Hp} : ∀ {bs : List PV}, (∀ p ∈ bs, SqT K H p.1 (p.2.map V.int)) → DvAll K H (bs.map fun p => V.ref p.1) ((bs.map (·.2)).map tupI)
  | [], _ => .nil
  | b :: bs, h => .cons (.tup (h b List.mem_cons_self) (DvAll.ofInts _)) (DvAll.ofPvs fun p hp => h p (List.mem_cons_of_mem _ hp))
section
variable {X : Cx}
def rSortV (K : PySem.W.Frag) : List V → Hp → VK → Prop := fun vs H Q => ∃ (a : Addr) (bs : List PV), vs = [V.ref a] ∧ H a = some (.lst (bs.map fun p => V.ref p.1)) ∧ (∀ p ∈ bs, SqT K H p.1 (p.2.map V.int)) ∧ (∀ p ∈ bs, p.2 ≠ []) ∧
  ∀ p, H p = none → Q (.ref p) (upd H p (.lst ((psort bs).map fun p => V.ref p.1)))
theorem cr_sortV (hu : X.A.units + 64 < cLine) : CallR X (.builtin "sorted") (rSortV X.K) := by
  intro pins s σ H vs us Q I r h
  obtain ⟨a, bs, rfl, ha, hk, hne, q⟩ := h
  rw [Vals.ref1 r]
  obtain ⟨its, rv, hl, hz⟩ := I.list (SqL.of ha)
  have e := refs_pv rv
  subst e
  rw [List.length_map] at hz
  refine sorted_vers hl.isList (fun p hp => tupV_of I (hk p hp)) hne hz (by omega) ?_
  obtain ⟨ep, he'⟩ := PyProof.Rows.sortedAll_at s.heap (bs.map refOf) ((psort bs).map refOf).toArray
  have hlen : ((psort bs).map fun p => V.ref p.1).length ≤ sizeLine := by rw [List.length_map, (psort_perm bs).length_eq]; exact hz
  exact ⟨.ref _, upd H (s.heap.objs.size + 1) (.lst ((psort bs).map fun p => V.ref p.1)), I.laid (t' := s.toks) (fun _ _ => PyProof.Rows.sortedAll_old) (Nat.le_succ _) ⟨hlen, _, ep, vals_pv _, he'⟩, rfl, q _ (I.hok.fresh (Nat.le_succ _))⟩
variable {e : Expr} {σ : L2.St} {R : Hp} {pos p : Pos}
theorem pd_sortV {vs : List Ver} (hu : X.A.units + 64 < cLine) (B : Blt X.mg) (ha : PD X e σ R (.list (vs.map tupI))) (hne : ∀ v ∈ vs, v ≠ []) (hg : Gl X "sorted" := by rfl) (he : starEach [e] X.env = (false, eval e X.env) :: starEach [] X.env := by rfl) :
    PD X (.Call (.Name "sorted" p) [e] [] pos) σ R (.list ((vsort vs).map tupI)) :=
  pd_bf (cr_sortV hu) B.sorted (by decide +kernel) (pds_cons ha pds_nil he) (fun us R1 H1 Q _ s1 dvs k => by
    obtain ⟨v, rfl, dv⟩ := DvAll.one' dvs
    obtain ⟨a, xs, rfl, hs, hx⟩ := dv.lstE
    obtain ⟨bs, rfl, e, hb⟩ := hx.pvs
    refine ⟨a, bs, rfl, s1 _ _ hs, fun p hp => same_tup s1 (hb p hp), fun p hp => hne p.2 (by rw [← e]; exact List.mem_map.mpr ⟨p, hp, rfl⟩), fun q hq => ?_⟩
    have hsort : ∀ p ∈ psort bs, SqT X.K (upd R1 q (.lst ((psort bs).map fun p => V.ref p.1))) p.1 (p.2.map V.int) := fun p hp => same_tup (same_upd (s1.free hq)) (hb p ((psort_perm bs).mem_iff.mp hp))
    have d := DvAll.ofPvs hsort
    rw [psort_snd, e] at d
    exact k _ _ _ (Grow.add s1 hq) (.lst upd_same d)) hg (by decide) (by decide) he
def rSortSet (K : PySem.W.Frag) (P : Program) (w : World) : List V → Hp → VK → Prop := fun vs H Q => ∃ (a : Addr) (L : List PV), vs = [V.ref a] ∧ H a = some (SetTO P w a L) ∧ (∀ p ∈ L, SqT K H p.1 (p.2.map V.int)) ∧ (∀ p ∈ L, p.2 ≠ []) ∧
  ∀ (L' : List PV) (p : Addr), L'.Perm L → (L'.map (·.2)).Nodup → (L'.map (·.2)).Pairwise vle → H p = none → Q (.ref p) (upd H p (.lst (L'.map fun q => V.ref q.1)))
theorem tupV_isT {P : Program} {w : World} {h : Heap} {k : List Int} {b : Addr} (x : IsT P w h k b) : TupV h b k := by
  obtain ⟨o, items, n, ho, hc, hd, hi⟩ := x
  exact ⟨o, items, n, ho, hc, hd, ints_of_items hi⟩
theorem cr_sortSet (hc : X.calm = true) (hu : X.A.units + 64 < cLine) : CallR X (.builtin "sorted") (rSortSet X.K X.prog X.w) := by
  intro pins s σ H vs us Q I r h
  obtain ⟨a, L, rfl, ha, hk, hne, q⟩ := h
  have R0 : SetT0 X.prog X.w s.heap a L := (I.hok a _ ha).1
  obtain ⟨es, ep, t, R⟩ := R0.full fun p hp => I.isT (hk p hp)
  rw [Vals.ref1 r]
  obtain ⟨o, ho, hex, hd⟩ := R.ob
  have hsz := R.size
  have hfew := R.few
  refine sorted_of (collect_set (A := X.A.in1) (I.ok.hd hc) ⟨o, ho, hex.1, hd⟩ R.fits (by unfold scanBound; omega) R.tab.ris R.led fun s1 vs k1 hz g1 o1 pm => ?_) (by omega)
  have hes : es.toList.map (·.2) = L.map refOf := by
    rw [R.rows]
    unfold rowsOf
    rw [List.map_map] <;> rfl
  rw [hes] at pm
  -- the values are the addresses of the rows, in some order
  obtain ⟨bs, hb1, hb2⟩ : ∃ bs : List PV, vs = bs.map refOf ∧ bs.Perm L := by
    have : ∀ (vs : List Value) (L : List PV), vs.Perm (L.map refOf) → ∃ bs : List PV, vs = bs.map refOf ∧ bs.Perm L := by
      intro vs
      induction vs with
      | nil =>
        intro L h
        have e : L.map refOf = [] := h.nil_eq.symm
        have e2 : L = [] := List.map_eq_nil_iff.mp e
        subst e2
        exact ⟨[], rfl, .nil⟩
      | cons v vs ih =>
        intro L h
        have hv : v ∈ L.map refOf := h.mem_iff.mp List.mem_cons_self
        obtain ⟨q, hq, e⟩ := List.mem_map.mp hv
        obtain ⟨L1, L2, rfl⟩ := List.append_of_mem hq
        have h2 : vs.Perm ((L1 ++ L2).map refOf) := by
          have h3 : (v :: vs).Perm (v :: ((L1 ++ L2).map refOf)) := by
            refine h.trans ?_
            rw [List.map_append, List.map_cons, List.map_append, ← e]
            exact List.perm_middle
          exact List.Perm.cons_inv h3
        obtain ⟨bs, e1, e2⟩ := ih _ h2
        exact ⟨q :: bs, by rw [List.map_cons, ← e1, e], (e2.cons q).trans List.perm_middle.symm⟩
    exact this vs L pm
  refine ⟨bs, hb1, fun p hp => (tupV_isT (R.tup p (hb2.mem_iff.mp hp))).keeps fun o e => k1 _ _ e, fun p hp => hne p (hb2.mem_iff.mp hp), by rw [hb2.length_eq, sizeLine_eq]; omega, fun h' n kk hp => ?_⟩
  have pp : (psort bs).Perm L := (psort_perm bs).trans hb2
  have hlen : ((psort bs).map fun q => V.ref q.1).length ≤ sizeLine := by rw [List.length_map, pp.length_eq, sizeLine_eq]; omega
  have hn : H s1.heap.objs.size = none := I.hok.fresh hz
  have J : Inv X pins σ (upd H s1.heap.objs.size (.lst ((psort bs).map fun q => V.ref q.1))) { s with heap := h', gens := s1.gens, drawn := s1.drawn, toks := s1.toks } :=
    I.call (ch := []) (Un.laid (fun b u e => kk _ _ (k1 b u e)) hz hn) (I.hok.laid (fun b u e => kk _ _ (k1 b u e)) hz ⟨hlen, _, n, vals_pv _, hp⟩) (by rw [g1]; exact I.bare) (fun _ z => nomatch z)
  have e : ({ s1 with heap := h' } : Shared) = { s with heap := h', gens := s1.gens, drawn := s1.drawn, toks := s1.toks } := by
    cases s1
    cases s
    cases o1
    rfl
  rw [e]
  refine ⟨.ref s1.heap.objs.size, _, J, rfl, q _ _ pp ((pp.map (·.2)).nodup_iff.mpr R.nd) ?_ hn⟩
  rw [psort_snd]
  exact vsort_pairwise _
/-- sorted(set(xs)), xs a list of versions -/
theorem pd_sortSet {vs : List Ver} {p2 q2 : Pos} (hc : X.calm = true) (hu : X.A.units + 64 < cLine) (B : Blt X.mg) (ha : PD X e σ R (.list (vs.map tupI))) (hne : ∀ v ∈ vs, v ≠ []) (hl : vs.length < 64) (hg : Gl X "sorted" := by rfl) (hg2 : Gl X "set" := by rfl)
    (he : starEach [e] X.env = (false, eval e X.env) :: starEach [] X.env := by rfl) (he2 : starEach [.Call (.Name "set" p2) [e] [] q2] X.env = (false, eval (.Call (.Name "set" p2) [e] [] q2) X.env) :: starEach [] X.env := by rfl) :
    PD X (.Call (.Name "sorted" p) [.Call (.Name "set" p2) [e] [] q2] [] pos) σ R (.list ((settle vs).map tupI)) :=
  .of (pe_callB (cr_sortSet hc hu) hg B.sorted (by decide +kernel) (pa_cons (pe_callTy (cr_setOfT hc hu) hg2 B.set (by decide +kernel) (pa_cons pe_pd pa_nil he) (by decide) (by decide) he) pa_nil he2) (by decide) (by decide) he2) fun H Q sb k => ⟨R, _, sb, ha, fun v H1 R1 g dv => by
    obtain ⟨a, xs, rfl, hs, hx⟩ := dv.lstE
    obtain ⟨bs, rfl, e, hb⟩ := hx.pvs
    refine ⟨a, bs, rfl, SqL.of (g.inn _ _ hs), fun p hp => same_tup g.inn (hb p hp), by rw [← List.length_map (f := (·.2)), e]; exact hl, fun t L ht hL1 hL2 => ?_⟩
    have sL : ∀ p ∈ L, SqT X.K R1 p.1 (p.2.map V.int) := fun p hp => hb p (hL1 p hp)
    have z1 := same_upd (o := SetTO X.prog X.w t L) ht
    refine ⟨t, L, rfl, upd_same, fun p hp => same_tup (g.inn.trans z1) (sL p hp), fun p hp => hne p.2 (by rw [← e]; exact List.mem_map.mpr ⟨p, hL1 p hp, rfl⟩), fun L' q pm nd pw hq => ?_⟩
    have g2 : Grow R H R1 (upd H1 t (SetTO X.prog X.w t L)) := g.trans (Grow.hide g.inn ht)
    have hsort : ∀ p ∈ L', SqT X.K (upd R1 q (.lst (L'.map fun p => V.ref p.1))) p.1 (p.2.map V.int) := fun p hp => same_tup (same_upd (g2.inn.free hq)) (sL p (pm.mem_iff.mp hp))
    have d := DvAll.ofPvs hsort
    have eL : L'.map (·.2) = settle vs := settle_eq (asc_of_nodup pw nd) fun v => by
      constructor
      · intro hv
        obtain ⟨p, hp, rfl⟩ := List.mem_map.mp hv
        rw [← e]
        exact List.mem_map.mpr ⟨p, hL1 p (pm.mem_iff.mp hp), rfl⟩
      · intro hv
        rw [← e] at hv
        obtain ⟨p, hp, rfl⟩ := List.mem_map.mp hv
        obtain ⟨p', hp', e'⟩ := List.mem_map.mp (hL2 p hp)
        exact List.mem_map.mpr ⟨p', pm.mem_iff.mpr hp', e'⟩
    rw [eL] at d
    exact k _ _ _ (g2.trans (Grow.add g2.inn hq)) (.lst upd_same d)⟩
end
end NF

set_option Elab.async false
set_option linter.all false
set_option maxRecDepth 100000
set_option maxHeartbeats 2000000
namespace NF
open PySem PySem.Spec PyProof.Rows L2
abbrev vKind (P : Program) (w : World) : HeapKind P w (List Int) := tupleKind (intKind P w)
abbrev entOf (p : PV) : List Int × Addr × Value := (p.2, p.1, .bool true)
/-- the dict at a, without the keys' own tuples -/
structure DictV0 (P : Program) (w : World) (h : Heap) (a : Addr) (L : List PV) : Prop where
  ex : ∃ (o : Obj) (es : Array DictEntry) (ep : Nat), h.get? a = some o ∧ o.ExactDict ∧ o.data = .dict es ep ∧ es.toList = (L.map entOf).map (entryOfKey (vKind P w))
  nd : (L.map (·.2)).Nodup
  sys : (a == sysModules) = false
  len : L.length ≤ sizeLine
def DictVO (P : Program) (w : World) (a : Addr) (L : List PV) : HO := .ext fun h => DictV0 P w h a L
theorem dictVO_new {P : Program} {w : World} {H : Hp} {h : Heap} {a : Addr} {L : List PV} (R : DictV0 P w h a L) : ObjOk P w H h a (DictVO P w a L) := by
  have ⟨o, es, ep, ho, r⟩ := R.ex
  refine ⟨R, ⟨o, ho⟩, fun h1 h2 p k => ?_⟩
  have ⟨o', es', ep', ho', r'⟩ := DictV0.ex p
  exact ⟨⟨o', es', ep', k o' ho', r'⟩, p.nd, p.sys, p.len⟩
theorem keys_ent (L : List PV) : (L.map entOf).map (·.1) = L.map (·.2) := by rw [List.map_map]; rfl
theorem DictV0.full {P : Program} {w : World} {h : Heap} {a : Addr} {L : List PV} (R : DictV0 P w h a L) (ht : ∀ p ∈ L, IsT P w h p.2 p.1) : h.DictOfH (vKind P w) a (L.map entOf) := by
  obtain ⟨o, es, ep, ho, hx, hd, he⟩ := R.ex
  refine ⟨o, es, ep, ho, hx, hd, he, fun x hx => ?_, by rw [keys_ent]; exact R.nd⟩
  obtain ⟨p, hp, rfl⟩ := List.mem_map.mp hx
  exact ht p hp
theorem DictV0.of {P : Program} {w : World} {h : Heap} {a : Addr} {L : List PV} (D : h.DictOfH (vKind P w) a (L.map entOf)) (hs : (a == sysModules) = false) (hl : L.length ≤ sizeLine) : DictV0 P w h a L := by
  obtain ⟨o, es, ep, ho, hx, hd, he, _, hn⟩ := D
  rw [keys_ent] at hn
  exact ⟨⟨o, es, ep, ho, hx, hd, he⟩, hn, hs, hl⟩
theorem putAt_true (k : List Int) (L : List PV) : (L.map entOf).map (putAt k (.bool true)) = L.map entOf := by
  rw [List.map_map]
  refine List.map_congr_left fun p _ => ?_
  show putAt k (.bool true) (entOf p) = entOf p
  unfold putAt
  split <;> rfl
/-- a key more -/
def addK (L : List PV) (q : Addr) (v : Ver) : List PV := if v ∈ L.map (·.2) then L else L ++ [(q, v)]
theorem addK_mem {L : List PV} {q : Addr} {v : Ver} {p : PV} (h : p ∈ addK L q v) : p ∈ L ∨ p = (q, v) := by
  unfold addK at h
  split at h
  · exact .inl h
  · rcases List.mem_append.mp h with h | h
    · exact .inl h
    · exact .inr (List.mem_singleton.mp h)
theorem addK_keys {L : List PV} {q : Addr} {v u : Ver} : u ∈ (addK L q v).map (·.2) ↔ u ∈ L.map (·.2) ∨ u = v := by
  unfold addK
  split
  · rename_i h
    constructor
    · exact .inl
    · rintro (h' | rfl)
      · exact h'
      · exact h
  · rw [List.map_append, List.mem_append]
    simp
theorem addK_len (L : List PV) (q : Addr) (v : Ver) : (addK L q v).length ≤ L.length + 1 := by
  unfold addK
  split
  · omega
  · rw [List.length_append]; exact Nat.le_refl _
theorem stored_addK (L : List PV) (q : Addr) (v : Ver) : storedH (L.map entOf) v q (.bool true) = (addK L q v).map entOf := by
  unfold storedH addK
  have e : (atKey (L.map entOf) v).isSome = decide (v ∈ L.map (·.2)) := by
    unfold atKey
    rw [Option.isSome_map]
    cases h : (L.map entOf).find? (fun x => decide (x.1 = v)) with
    | none =>
      rw [List.find?_eq_none] at h
      refine (decide_eq_false fun hm => ?_).symm
      obtain ⟨p, hp, e⟩ := List.mem_map.mp hm
      exact h _ (List.mem_map.mpr ⟨p, hp, rfl⟩) (decide_eq_true e)
    | some x =>
      have h1 := List.find?_some h
      have h2 := List.mem_of_find?_eq_some h
      obtain ⟨p, hp, e⟩ := List.mem_map.mp h2
      refine (decide_eq_true ?_).symm
      have h3 : x.1 = v := of_decide_eq_true h1
      rw [← e] at h3
      exact List.mem_map.mpr ⟨p, hp, h3⟩
  rw [e]
  by_cases h : v ∈ L.map (·.2)
  · rw [if_pos (decide_eq_true h), if_pos h, putAt_true]
  · rw [if_neg (by rw [decide_eq_false h]; exact Bool.false_ne_true), if_neg h, List.map_append]
    rfl
section
variable {X : Cx} {k v : Expr} {tk tv : TE} {pos : Pos}
/-- {k: True} -/
def tDisp1 (K : PySem.W.Frag) (P : Program) (w : World) (tk tv : TE) : TE := fun σ H Q => ∀ p, H p = none → tk σ (upd H p (DictVO P w p [])) fun x H1 => tv σ H1 fun y H2 => y = .bl true ∧ ∃ q ns, x = .ref q ∧ SqT K H2 q (ns.map V.int) ∧ H2 p = some (DictVO P w p []) ∧ Q (.ref p) (upd H2 p (DictVO P w p [(q, ns)]))
theorem pe_disp1 (hu : X.A.units + 1 < cLine) (hk : PE X k tk) (hv : PE X v tv) : PE X (.Dict [some k] [v] pos) (tDisp1 X.K X.prog X.w tk tv) := by
  refine ⟨fun pins s σ H Q I q => ?_⟩
  have hn := I.hok.fresh (Nat.le_refl s.heap.objs.size)
  have hs : (s.heap.objs.size == sysModules) = false := beq_eq_false_iff_ne.mpr (Ne.symm (Nat.ne_of_lt I.big))
  have I1 := I.laid (a := s.heap.objs.size) (o := DictVO X.prog X.w s.heap.objs.size []) (h' := s.heap.push { cls := .type "dict", data := .dict #[] }) (t' := s.toks) (fun _ _ q => Heap.get?_push_of_some _ q) (Nat.le_refl _)
    (dictVO_new (DictV0.of (L := []) (Heap.DictOfH.new s.heap) hs (Nat.zero_le _)))
  have hsh := zip_pairTrees [some k] [v] X.env pos rfl rfl
  rw [arm_eval_Dict, hsh, dictDisplay_pairs (pairTrees [some k] [v] X.env pos) (by simp [pairTrees]) (by simp [pairTrees])]
  refine wpAny_bind (wpAny_standAt (wpAny_bind (wpAny_subDictH (knd := vKind X.prog X.w) (Q := fun d s' => wpAny (model X.prog X.w) X.A (pure (Value.ref d)) (EP X pins σ Q) X.xe s') (by show X.A.units < cLine; omega) (by simp [pairTrees]) ?_)))
  refine pairTrees_cons_walk (thn (hk.run pins _ σ _ _ I1 (q _ hn)) fun u s1 ⟨x, H1, I1, rx, q1⟩ => thn (hv.run pins s1 σ H1 _ I1 q1) fun w2 s2 ⟨y, H2, I2, ry, q2⟩ => pairTrees_nil_walk ?_)
  obtain ⟨rfl, r, ns, rfl, hr, hd, q3⟩ := q2
  cases (show w2 = Value.bool true from ry)
  cases (show u = Value.ref r from rx)
  have hT : IsT X.prog X.w s2.heap ns r := I2.isT hr
  have D0 : DictV0 X.prog X.w s2.heap s.heap.objs.size [] := (I2.hok _ _ hd).1
  refine ⟨[(ns, r, .bool true)], ⟨rfl, rfl, hT, trivial⟩, D0.full (fun p hp => nomatch hp), fun h' tk' dd hsb => wpAny_pure ?_⟩
  have D1 : DictV0 X.prog X.w h' s.heap.objs.size [(r, ns)] := DictV0.of (L := [(r, ns)]) dd hs (by show 1 ≤ sizeLine; decide)
  have he : ∃ q, h'.get? s.heap.objs.size = some q := let ⟨o, _, _, ho, _⟩ := D1.ex; ⟨o, ho⟩
  exact ⟨.ref s.heap.objs.size, _, d_write I2 (by rw [hd]; trivial) hsb he (dictVO_new D1), rfl, q3⟩
/-- d[key] = True -/
def rSetDV (K : PySem.W.Frag) (P : Program) (w : World) : V → V → V → Hp → (Hp → Prop) → Prop := fun o i v H Q => ∃ (a : Addr) (L : List PV) (q : Addr) (ns : Ver), o = .ref a ∧ i = .ref q ∧ v = .bl true ∧ H a = some (DictVO P w a L) ∧ (∀ p ∈ L, SqT K H p.1 (p.2.map V.int)) ∧ SqT K H q (ns.map V.int) ∧
  L.length < sizeLine ∧ Q (upd H a (DictVO P w a (addK L q ns)))
theorem set_dictV (hu : X.A.units + 1 < cLine) : PSet X (rSetDV X.K X.prog X.w) := by
  intro pins s σ H o i v ov iv u Q I ro ri rv h
  obtain ⟨a, L, q, ns, rfl, rfl, rfl, ha, hL, hq, hl, k⟩ := h
  cases (show ov = Value.ref a from ro)
  cases (show iv = Value.ref q from ri)
  cases (show u = Value.bool true from rv)
  have D0 : DictV0 X.prog X.w s.heap a L := (I.hok _ _ ha).1
  refine wpAny_setItem_heap (knd := vKind X.prog X.w) (hsz := by rw [List.length_map]; exact D0.len) (by show X.A.units + 1 < cLine; exact hu) (I.isT hq) (D0.full fun p hp => I.isT (hL p hp)) fun h' dd hs => ?_
  rw [stored_addK] at dd
  have D1 : DictV0 X.prog X.w h' a (addK L q ns) := DictV0.of dd D0.sys (Nat.le_trans (addK_len L q ns) hl)
  have he : ∃ q, h'.get? a = some q := let ⟨o, _, _, ho, _⟩ := D1.ex; ⟨o, ho⟩
  exact ⟨_, d_write I (by rw [ha]; trivial) hs he (dictVO_new D1), k⟩
/-- sorted(d): the keys in order -/
def rSortDV (K : PySem.W.Frag) (P : Program) (w : World) : List V → Hp → VK → Prop := fun vs H Q => ∃ (a : Addr) (L : List PV), vs = [V.ref a] ∧ H a = some (DictVO P w a L) ∧ (∀ p ∈ L, SqT K H p.1 (p.2.map V.int)) ∧ (∀ p ∈ L, p.2 ≠ []) ∧
  ((L.map (·.2)).Nodup → ∀ p, H p = none → Q (.ref p) (upd H p (.lst ((psort L).map fun q => V.ref q.1))))
theorem cr_sortDV (hc : X.calm = true) (hu : X.A.units + 64 < cLine) : CallR X (.builtin "sorted") (rSortDV X.K X.prog X.w) := by
  intro pins s σ H vs us Q I r h
  obtain ⟨a, L, rfl, ha, hk, hne, q⟩ := h
  have D0 : DictV0 X.prog X.w s.heap a L := (I.hok a _ ha).1
  rw [Vals.ref1 r]
  obtain ⟨o, es, ep, ho, hx, hd, he⟩ := D0.ex
  have hsz : es.size = L.length := by rw [← Array.length_toList, he, List.length_map, List.length_map]
  refine sorted_of (PySem.W.kdu_collect (A := X.A.in1) (kdl_raw D0.sys hx hd) (I.ok.hd hc) ho (by rw [hsz]; exact D0.len) fun h' tk acc hkk it => ?_) (by omega)
  have eacc : acc.toList = L.map refOf := by
    apply List.ext_getElem?
    intro j
    rw [List.getElem?_map]
    have hl : acc.toList.length = L.length := by rw [Array.length_toList, it.1, hsz]
    cases hj : acc.toList[j]? with
    | none =>
      have h1 := List.getElem?_eq_none_iff.mp hj
      rw [List.getElem?_eq_none (by omega)]
      rfl
    | some v =>
      obtain ⟨en, hen, hv⟩ := it.2 j v (by rw [← Array.getElem?_toList]; exact hj)
      have e2 : es.toList[j]? = some en := by rw [Array.getElem?_toList]; exact hen
      rw [he, List.getElem?_map, List.getElem?_map] at e2
      cases hb : L[j]? with
      | none => rw [hb] at e2; cases e2
      | some b =>
        rw [hb] at e2
        have e3 : entryOfKey (vKind X.prog X.w) (entOf b) = en := Option.some.inj e2
        rw [hv, ← e3]
        rfl
  refine ⟨L, eacc, fun p hp => (tupV_of I (hk p hp)).keeps fun o e => hkk _ _ e, hne, D0.len, fun h'' n kk hp => ?_⟩
  have hlen : ((psort L).map fun q => V.ref q.1).length ≤ sizeLine := by rw [List.length_map, (psort_perm L).length_eq]; exact D0.len
  have I1 : Inv X pins σ H { s with heap := h', toks := tk } := I.kept hkk
  exact ⟨.ref h'.objs.size, upd H h'.objs.size (.lst ((psort L).map fun q => V.ref q.1)), I1.laid (t' := tk) kk (Nat.le_refl _) ⟨hlen, _, n, vals_pv _, hp⟩, rfl, q D0.nd _ (I1.hok.fresh (Nat.le_refl _))⟩
end
end NF

set_option Elab.async false
set_option linter.all false
set_option maxRecDepth 100000
set_option maxHeartbeats 2000000
namespace NF
open PySem PySem.Spec PyProof.Rows L2

def Box (n : Nat) (H : Hp) (t : Addr) : Prop := ∃ a b c : Int, H t = some (.lst [.int a, .int b, .int c]) ∧ 0 ≤ a ∧ 0 ≤ b ∧ 0 ≤ c ∧ c ≤ (n : Int)
def BoxO : Option Addr → Nat → Hp → Prop
  | none, _, _ => True
  | some t, n, H => Box n H t
def hid : Option Addr → Hp → Hp
  | none, H => H
  | some t, H => fun a => if a = t then none else H a
theorem hid_some {t a : Addr} {H : Hp} (h : a ≠ t) : hid (some t) H a = H a := if_neg h
theorem hid_self {t : Addr} {H : Hp} : hid (some t) H t = none := if_pos rfl
theorem hid_le (t : Option Addr) (H : Hp) : Same (hid t H) H := by
  cases t with
  | none => exact Same.refl _
  | some t =>
    intro a o e
    by_cases h : a = t
    · rw [h, hid_self] at e; cases e
    · rw [hid_some h] at e; exact e
theorem BoxO.mono {t : Option Addr} {n m : Nat} {H : Hp} (h : BoxO t n H) (le : n ≤ m) : BoxO t m H := by
  cases t with
  | none => trivial
  | some t =>
    obtain ⟨a, b, c, h1, h2, h3, h4, h5⟩ := h
    exact ⟨a, b, c, h1, h2, h3, h4, by omega⟩
/-- what grows leaves the box as it is -/
theorem Grow.box {t : Option Addr} {n : Nat} {R H R' H' : Hp} (g : Grow R H R' H') (s : Same R (hid t H)) (b : BoxO t n H) : Grow R (hid t H) R' (hid t H') ∧ BoxO t n H' := by
  cases t with
  | none => exact ⟨g, trivial⟩
  | some t =>
    obtain ⟨x, y, z, h1, h2⟩ := b
    have rt : R t = none := by
      cases e : R t with
      | none => rfl
      | some o => have q := s _ _ e; rw [hid_self] at q; cases q
    obtain ⟨r', h'⟩ := g.off rt h1
    refine ⟨⟨fun a o e => ?_, g.sub, fun a o e => ?_, fun a o e => ?_⟩, x, y, z, h', h2⟩
    · by_cases q : a = t
      · rw [q, hid_self] at e; cases e
      · rw [hid_some q] at e ⊢
        exact g.ext _ _ e
    · by_cases q : a = t
      · rw [q, r'] at e; cases e
      · rw [hid_some q]
        exact g.inn _ _ e
    · by_cases q : a = t
      · rw [q, r'] at e; cases e
      · rw [hid_some q]
        exact g.new _ _ e
/-- a list of one's own is rewritten -/
theorem Grow.put {t : Option Addr} {R0 H0 R H : Hp} {l : Addr} {o o' : HO} (g : Grow R0 H0 R (hid t H)) (h0 : R0 l = none) (h : R l = some o) : Grow R0 H0 (upd R l o') (hid t (upd H l o')) ∧ (t = some l → False) := by
  have nt : t = some l → False := fun e => by
    subst e
    have q := g.inn _ _ h
    rw [hid_self] at q; cases q
  have hl : H0 l = none := by
    rcases g.new _ _ h with q | q
    · rw [h0] at q; cases q
    · exact q
  refine ⟨⟨fun a u e => ?_, fun a u e => ?_, fun a u e => ?_, fun a u e => ?_⟩, nt⟩
  · have na : a ≠ l := ne_of_none e hl
    have q := g.ext _ _ e
    cases t with
    | none => show upd H l o' a = some u; rw [upd_ne na]; exact q
    | some t =>
      by_cases z : a = t
      · rw [z, hid_self] at q; cases q
      · rw [hid_some z] at q ⊢
        rw [upd_ne na]; exact q
  · have na : a ≠ l := ne_of_none e h0
    rw [upd_ne na]
    exact g.sub _ _ e
  · by_cases na : a = l
    · subst na
      rw [upd_same] at e
      cases t with
      | none => show upd H a o' a = some u; rw [upd_same]; exact e
      | some t =>
        have z : a ≠ t := fun z => nt (by rw [z])
        rw [hid_some z, upd_same]
        exact e
    · rw [upd_ne na] at e
      have q := g.inn _ _ e
      cases t with
      | none => show upd H l o' a = some u; rw [upd_ne na]; exact q
      | some t =>
        by_cases z : a = t
        · rw [z, hid_self] at q; cases q
        · rw [hid_some z] at q ⊢
          rw [upd_ne na]; exact q
  · by_cases na : a = l
    · subst na
      exact .inr hl
    · rw [upd_ne na] at e
      exact g.new _ _ e
theorem BoxO.put {t : Option Addr} {n : Nat} {H : Hp} {l : Addr} {o : HO} (b : BoxO t n H) (nt : t = some l → False) : BoxO t n (upd H l o) := by
  cases t with
  | none => trivial
  | some t =>
    obtain ⟨x, y, z, h1, h2⟩ := b
    exact ⟨x, y, z, by rw [upd_ne (fun e => nt (by rw [e]))]; exact h1, h2⟩

mutual
def noL : PyData → Bool
  | .list _ => false
  | .tuple ds => noLs ds
  | .dict _ => false
  | _ => true
def noLs : List PyData → Bool
  | [] => true
  | d :: ds => noL d && noLs ds
end
section
variable {K : PySem.W.Frag} {R : Hp} {l : Addr} {ws : List V} {o : HO}
mutual
theorem overD (hl : R l = some (.lst ws)) : ∀ (d : PyData) (v : V), noL d = true → Dv K R v d → Dv K (upd R l o) v d
  | .none, _, _, h => by cases h; exact .non
  | .bool _, _, _, h => by cases h; exact .bl _
  | .int _, _, _, h => by cases h; exact .int _
  | .str _, _, _, h => by cases h; exact .str _
  | .list _, _, n, _ => by cases n
  | .tuple ds, _, n, h => by
    cases h with
    | tup a b =>
      refine .tup ?_ (overDs hl ds _ n b)
      rcases a with (a | ⟨o, a⟩) | a
      · exact .inl (.inl (by rw [upd_ne (fun e => by rw [e, hl] at a; cases a)]; exact a))
      · exact .inl (.inr ⟨o, by rw [upd_ne (fun e => by rw [e, hl] at a; cases a)]; exact a⟩)
      · exact .inr a
  | .dict _, _, n, _ => by cases n
theorem overDs (hl : R l = some (.lst ws)) : ∀ (ds : List PyData) (vs : List V), noLs ds = true → DvAll K R vs ds → DvAll K (upd R l o) vs ds
  | [], _, _, h => by cases h; exact .nil
  | d :: ds, _, n, h => by
    cases h with
    | cons a b =>
      have n' : (noL d && noLs ds) = true := n
      rw [Bool.and_eq_true] at n'
      exact .cons (overD hl d _ n'.1 a) (overDs hl ds _ n'.2 b)
end
theorem Dv.over {v : V} {d : PyData} (h : Dv K R v d) (hl : R l = some (.lst ws)) (n : noL d = true) : Dv K (upd R l o) v d := overD hl d v n h
theorem DvAll.over {vs : List V} {ds : List PyData} (h : DvAll K R vs ds) (hl : R l = some (.lst ws)) (n : noLs ds = true) : DvAll K (upd R l o) vs ds := overDs hl ds vs n h
end
theorem noLs_all : ∀ {ds : List PyData}, (∀ d ∈ ds, noL d = true) → noLs ds = true
  | [], _ => rfl
  | d :: ds, h => by
    show (noL d && noLs ds) = true
    rw [h d List.mem_cons_self, noLs_all fun e he => h e (List.mem_cons_of_mem _ he)]
    rfl

structure EW (X : Cx) (t : Option Addr) (n : Nat) (e : Expr) (σ : L2.St) (R : Hp) (W : Nat → PyData → Prop) : Prop where
  run : ∀ (pins : List (Addr × Obj)) (s : Shared) (H : Hp) (Q : VK), Inv X pins σ H s → BoxO t n H → Same R (hid t H) → (∀ v H' R' m d, BoxO t m H' → Grow R (hid t H) R' (hid t H') → Dv X.K R' v d → W m d → Q v H') →
    wpAny (model X.prog X.w) X.A (eval e X.env) (EP X pins σ Q) X.xe s
def tEW (X : Cx) (e : Expr) : TE := fun σ H Q => ∃ t n R W, BoxO t n H ∧ Same R (hid t H) ∧ EW X t n e σ R W ∧ ∀ v H' R' m d, BoxO t m H' → Grow R (hid t H) R' (hid t H') → Dv X.K R' v d → W m d → Q v H'
structure EWT (X : Cx) (t : Option Addr) (n : Nat) (e : Expr) (σ : L2.St) (R : Hp) (W : Nat → Bool → Prop) : Prop where
  run : ∀ (pins : List (Addr × Obj)) (s : Shared) (H : Hp) (Q : Bool → Hp → Prop), Inv X pins σ H s → BoxO t n H → Same R (hid t H) → (∀ H' R' m b, BoxO t m H' → Grow R (hid t H) R' (hid t H') → W m b → Q b H') →
    wpAny (model X.prog X.w) X.A (isTrue e X.env (eval e X.env)) (TP X pins σ Q) X.xe s
def tEWT (X : Cx) (e : Expr) : TT := fun σ H Q => ∃ t n R W, BoxO t n H ∧ Same R (hid t H) ∧ EWT X t n e σ R W ∧ ∀ H' R' m b, BoxO t m H' → Grow R (hid t H) R' (hid t H') → W m b → Q b H'
structure EWs (X : Cx) (t : Option Addr) (n : Nat) (es : List Expr) (σ : L2.St) (R : Hp) (W : Nat → List PyData → Prop) : Prop where
  run : ∀ (pos : Pos) (pins : List (Addr × Obj)) (s : Shared) (H : Hp) (Q : List V → Hp → Prop), Inv X pins σ H s → BoxO t n H → Same R (hid t H) → (∀ vs H' R' m ds, BoxO t m H' → Grow R (hid t H) R' (hid t H') → DvAll X.K R' vs ds → W m ds → Q vs H') →
    wpAny (model X.prog X.w) X.A (spliced (backTo pos (starEach es X.env))) (AP X pins σ Q) X.xe s
def tEWs (X : Cx) (es : List Expr) : TA := fun σ H Q => ∃ t n R W, BoxO t n H ∧ Same R (hid t H) ∧ EWs X t n es σ R W ∧ ∀ vs H' R' m ds, BoxO t m H' → Grow R (hid t H) R' (hid t H') → DvAll X.K R' vs ds → W m ds → Q vs H'
section
variable {X : Cx} {t : Option Addr} {n : Nat} {e a b : Expr} {es : List Expr} {σ : L2.St} {R R1 : Hp} {d : PyData} {W W1 W2 : Nat → PyData → Prop} {Ws : Nat → List PyData → Prop} {pos : Pos}
theorem pe_ew : PE X e (tEW X e) := ⟨fun pins s σ H Q I ⟨t, n, R, W, bx, sb, p, k⟩ => p.run pins s H Q I bx sb k⟩
theorem pt_ew : PT X e (tEWT X e) := ⟨fun pins s σ H Q I ⟨t, n, R, W, bx, sb, p, k⟩ => p.run pins s H Q I bx sb k⟩
theorem pa_ew : PA X es (tEWs X es) := ⟨fun pos pins s σ H Q I ⟨t, n, R, W, bx, sb, p, k⟩ => p.run pos pins s H Q I bx sb k⟩
theorem EW.of {te : TE} (h : PE X e te) (ev : ∀ (H : Hp) (Q : VK), BoxO t n H → Same R (hid t H) → (∀ v H' R' m d, BoxO t m H' → Grow R (hid t H) R' (hid t H') → Dv X.K R' v d → W m d → Q v H') → te σ H Q) : EW X t n e σ R W :=
  ⟨fun pins s H Q I bx sb k => h.run pins s σ H Q I (ev H Q bx sb k)⟩
theorem EWT.of {W : Nat → Bool → Prop} {te : TT} (h : PT X e te) (ev : ∀ (H : Hp) (Q : Bool → Hp → Prop), BoxO t n H → Same R (hid t H) → (∀ H' R' m d, BoxO t m H' → Grow R (hid t H) R' (hid t H') → W m d → Q d H') → te σ H Q) : EWT X t n e σ R W :=
  ⟨fun pins s H Q I bx sb k => h.run pins s σ H Q I (ev H Q bx sb k)⟩
theorem EW.mono (h : EW X t n e σ R W) (s : Same R R1) : EW X t n e σ R1 W := ⟨fun pins sh H Q I bx sb k => h.run pins sh H Q I bx (s.trans sb) fun v H' R' m d bx' g dv w =>
  let ⟨g1, s1⟩ := g.wide s sb
  k v H' _ m d bx' g1 (Dv_mono s1 dv) w⟩
theorem EWT.mono {W : Nat → Bool → Prop} (h : EWT X t n e σ R W) (s : Same R R1) : EWT X t n e σ R1 W := ⟨fun pins sh H Q I bx sb k => h.run pins sh H Q I bx (s.trans sb) fun H' R' m d bx' g w =>
  k H' _ m d bx' (g.wide s sb).1 w⟩
theorem EWs.mono (h : EWs X t n es σ R Ws) (s : Same R R1) : EWs X t n es σ R1 Ws := ⟨fun pos pins sh H Q I bx sb k => h.run pos pins sh H Q I bx (s.trans sb) fun v H' R' m d bx' g dv w =>
  let ⟨g1, s1⟩ := g.wide s sb
  k v H' _ m d bx' g1 (DvAll_mono s1 dv) w⟩
theorem EW.imp (h : EW X t n e σ R W) (i : ∀ m d, W m d → W1 m d) : EW X t n e σ R W1 := ⟨fun pins sh H Q I bx sb k => h.run pins sh H Q I bx sb fun v H' R' m d bx' g dv w => k v H' R' m d bx' g dv (i m d w)⟩
theorem ew_pd (h : PD X e σ R d) (w : W n d) : EW X t n e σ R W := ⟨fun pins s H Q I bx sb k => h.run pins s H Q I (sb.trans (hid_le t H)) fun v H' R' g dv =>
  let ⟨g1, b1⟩ := g.box sb bx
  k v H' R' n d b1 g1 dv w⟩
theorem ewt_pt {c : Bool} {W : Nat → Bool → Prop} (h : PTD X e σ R c) (w : W n c) : EWT X t n e σ R W := ⟨fun pins s H Q I bx sb k => h.run pins s H Q I (sb.trans (hid_le t H)) fun H' R' g =>
  let ⟨g1, b1⟩ := g.box sb bx
  k H' R' n c b1 g1 w⟩
theorem ews_nil (w : Ws n []) : EWs X t n [] σ R Ws := ⟨fun pos pins s H Q I bx sb k => pa_nil.run pos pins s σ H Q I (k [] H R n [] bx (Grow.refl sb) .nil w)⟩
theorem ews_cons {Ws2 : Nat → PyData → Nat → List PyData → Prop} (ha : EW X t n e σ R W) (hr : ∀ m d, W m d → EWs X t m es σ R (Ws2 m d)) (w : ∀ m d k ds, W m d → Ws2 m d k ds → Ws k (d :: ds)) (hs : starEach (e :: es) X.env = (false, eval e X.env) :: starEach es X.env := by rfl) : EWs X t n (e :: es) σ R Ws :=
  ⟨fun pos pins s H Q I bx sb k => (pa_cons pe_ew pa_ew hs).run pos pins s σ H Q I ⟨t, n, R, W, bx, sb, ha, fun v H1 R1 m d b1 g1 dv w1 =>
    ⟨t, m, R1, _, b1, g1.inn, (hr m d w1).mono g1.sub, fun vs H2 R2 m2 ds b2 g2 dvs w2 => k _ H2 R2 m2 _ b2 (g1.trans g2) (.cons (Dv_mono g2.sub dv) dvs) (w m d m2 ds w1 w2)⟩⟩⟩
theorem ews_one (ha : EW X t n e σ R W) (w : ∀ m d, W m d → Ws m [d]) (hs : starEach [e] X.env = (false, eval e X.env) :: starEach [] X.env := by rfl) : EWs X t n [e] σ R Ws :=
  ews_cons (Ws2 := fun m d k ds => k = m ∧ ds = []) ha (fun m d _ => ews_nil ⟨rfl, rfl⟩) (fun m d k ds w1 q => by obtain ⟨e1, e2⟩ := q; subst e2; rw [e1]; exact w m d w1) hs
theorem ew_tup {x1} (h : EWs X t n es σ R Ws) (w : ∀ m ds, Ws m ds → ds.length ≤ 1000 ∧ W m (.tuple ds)) : EW X t n (.Tuple es x1 pos) σ R W :=
  .of (pe_tup pa_ew) fun H Q bx sb k => ⟨t, n, R, Ws, bx, sb, h, fun vs H' R' m ds b' g dvs w1 => ⟨by
    rw [DvAll.len dvs]
    exact Nat.le_of_lt (small1000 (w m ds w1).1), fun p hp => by
      have gz : Grow R' H' (upd R' p (.tup vs)) (upd H' p (.tup vs)) := Grow.add (g.inn.trans (hid_le t H')) hp
      obtain ⟨g2, b2⟩ := gz.box g.inn b'
      exact k _ _ _ m _ b2 (g.trans g2) (.tup (SqT.of upd_same) (DvAll_mono g2.sub dvs)) (w m ds w1).2⟩⟩
theorem ew_lst (h : EWs X t n es σ R Ws) (w : ∀ m ds, Ws m ds → ds.length ≤ 1000 ∧ W m (.list ds)) : EW X t n (.List es pos) σ R W :=
  .of (pe_lst pa_ew) fun H Q bx sb k => ⟨t, n, R, Ws, bx, sb, h, fun vs H' R' m ds b' g dvs w1 => ⟨by
    rw [DvAll.len dvs]
    exact Nat.le_of_lt (small1000 (w m ds w1).1), fun p hp => by
      have gz : Grow R' H' (upd R' p (.lst vs)) (upd H' p (.lst vs)) := Grow.add (g.inn.trans (hid_le t H')) hp
      obtain ⟨g2, b2⟩ := gz.box g.inn b'
      exact k _ _ _ m _ b2 (g.trans g2) (.lst upd_same (DvAll_mono g2.sub dvs)) (w m ds w1).2⟩⟩
/-- an operation on what is drawn: the plain rule behind an argument that stands as data -/
theorem ew_un {w : Expr} {r : TE → TE} (pe : ∀ ta, PE X a ta → PE X w (r ta)) (ha : EW X t n a σ R W1)
    (k : ∀ m d1, W1 m d1 → ∃ d2, W m d2 ∧ ∀ (v : V) (R1 : Hp), Dv X.K R1 v d1 → Same R R1 → ∀ (H1 : Hp) (Q : VK), Same R1 H1 → (∀ u H' R', Grow R1 H1 R' H' → Dv X.K R' u d2 → Q u H') → (r (fun _ H Q => Q v H)) σ H1 Q)
    (mo : ∀ (ta : TE) (H : Hp) (Q : VK), ta σ H (fun v H1 => (r (fun _ H Q => Q v H)) σ H1 Q) → (r ta) σ H Q) : EW X t n w σ R W :=
  .of (pe _ pe_ew) fun H Q bx sb q => mo _ H Q ⟨t, n, R, W1, bx, sb, ha, fun v H1 R1 m d1 b1 g1 dv w1 => by
    obtain ⟨d2, w2, z⟩ := k m d1 w1
    refine z v R1 dv g1.sub H1 Q (g1.inn.trans (hid_le t H1)) fun u H2 R2 g2 du => ?_
    obtain ⟨g3, b3⟩ := g2.box g1.inn b1
    exact q u H2 R2 m d2 b3 (g1.trans g3) du w2⟩
theorem ew_two {w : Expr} {r : R2} {Wb : Nat → PyData → Nat → PyData → Prop} (pe : ∀ ta tb, PE X a ta → PE X b tb → PE X w (tOp r ta tb)) (ha : EW X t n a σ R W1) (hb : ∀ m d, W1 m d → EW X t m b σ R (Wb m d))
    (k : ∀ m d1 j d2, W1 m d1 → Wb m d1 j d2 → ∃ d3, W j d3 ∧ ∀ (x y : V) (R1 H1 : Hp) (Q : VK), Same R R1 → Same R1 H1 → Dv X.K R1 x d1 → Dv X.K R1 y d2 → (∀ v H' R', Grow R1 H1 R' H' → Dv X.K R' v d3 → Q v H') → r x y H1 Q) : EW X t n w σ R W :=
  .of (pe _ _ pe_ew pe_ew) fun H Q bx sb q => ⟨t, n, R, W1, bx, sb, ha, fun v H1 R1 m d1 b1 g1 dv w1 => ⟨t, m, R1, _, b1, g1.inn, (hb m d1 w1).mono g1.sub, fun u H2 R2 j d2 b2 g2 du w2 => by
    obtain ⟨d3, w3, z⟩ := k m d1 j d2 w1 w2
    refine z v u R2 H2 Q (g1.sub.trans g2.sub) (g2.inn.trans (hid_le t H2)) (Dv_mono g2.sub dv) du fun x H3 R3 g3 dx => ?_
    obtain ⟨g4, b4⟩ := g3.box g2.inn b2
    exact q x H3 R3 j d3 b4 ((g1.trans g2).trans g4) dx w3⟩⟩
theorem ew_if {c : Expr} {Wc : Nat → Bool → Prop} (hc : EWT X t n c σ R Wc) (ha : ∀ m, Wc m true → EW X t m a σ R W) (hb : ∀ m, Wc m false → EW X t m b σ R W) : EW X t n (.IfExp c a b pos) σ R W :=
  .of (pe_ifExp pt_ew pe_ew pe_ew) fun H Q bx sb k => ⟨t, n, R, Wc, bx, sb, hc, fun H1 R1 m x b1 g w => by
    cases x with
    | true => exact ⟨t, m, R1, W, b1, g.inn, (ha m w).mono g.sub, fun u H2 R2 m2 d b2 g2 du w2 => k u H2 R2 m2 d b2 (g.trans g2) du w2⟩
    | false => exact ⟨t, m, R1, W, b1, g.inn, (hb m w).mono g.sub, fun u H2 R2 m2 d b2 g2 du w2 => k u H2 R2 m2 d b2 (g.trans g2) du w2⟩⟩
theorem ewt {Wc : Nat → Bool → Prop} (h : EW X t n e σ R W) (w : ∀ m d, W m d → ∃ b, d = .bool b ∧ Wc m b) (he : ∀ whole, isTrue e X.env whole = (do let v ← whole; standAt e.pos; holding [v] (truthy v)) := by intro _; rfl) : EWT X t n e σ R Wc :=
  .of (pt_val pe_ew he) fun H Q bx sb k => ⟨t, n, R, W, bx, sb, h, fun v H' R' m d b' g dv w1 => by
    obtain ⟨c, rfl, wc⟩ := w m d w1
    cases dv
    exact ⟨_, rfl, k H' R' m c b' g wc⟩⟩
theorem ew_bf {x : Str} {p : Pos} {id : String} {r : List V → Hp → VK → Prop} (hc : CallR X (.builtin id) r) (hm : X.mg x = none) (hv : bootBuiltins x = some (.builtin id)) (ha : EWs X t n (e :: es) σ R Ws)
    (k : ∀ m ds, Ws m ds → ∃ d, W m d ∧ ∀ (vs : List V) (R1 H1 : Hp) (Q : VK), Same R R1 → Same R1 H1 → DvAll X.K R1 vs ds → (∀ v H' R', Grow R1 H1 R' H' → Dv X.K R' v d → Q v H') → r vs H1 Q)
    (hg : Gl X x := by rfl) (hn : x ≠ "__name__" := by decide) (hdb : (x == ("__debug__" : Str)) = false := by decide)
    (he : starEach (e :: es) X.env = (false, eval e X.env) :: starEach es X.env := by rfl) (hpl : (backTo pos (starEach es X.env)).any (·.1) = false := by rfl) : EW X t n (.Call (.Name x p) (e :: es) [] pos) σ R W :=
  .of (pe_callB hc hg hm hv pa_ew hn hdb he hpl) fun H Q bx sb q => ⟨t, n, R, Ws, bx, sb, ha, fun vs H1 R1 m ds b1 g dvs w => by
    obtain ⟨d, w2, z⟩ := k m ds w
    refine z vs R1 H1 Q g.sub (g.inn.trans (hid_le t H1)) dvs fun v H' R' g' dv => ?_
    obtain ⟨g3, b3⟩ := g'.box g.inn b1
    exact q v H' R' m d b3 (g.trans g3) dv w2⟩
theorem ew_bt {x : Str} {p : Pos} {T : String} {r : List V → Hp → VK → Prop} (hc : CallR X (.type T) r) (hm : X.mg x = none) (hv : bootBuiltins x = some (.type T)) (ha : EWs X t n (e :: es) σ R Ws)
    (k : ∀ m ds, Ws m ds → ∃ d, W m d ∧ ∀ (vs : List V) (R1 H1 : Hp) (Q : VK), Same R R1 → Same R1 H1 → DvAll X.K R1 vs ds → (∀ v H' R', Grow R1 H1 R' H' → Dv X.K R' v d → Q v H') → r vs H1 Q)
    (hg : Gl X x := by rfl) (hn : x ≠ "__name__" := by decide) (hdb : (x == ("__debug__" : Str)) = false := by decide)
    (he : starEach (e :: es) X.env = (false, eval e X.env) :: starEach es X.env := by rfl) (hpl : (backTo pos (starEach es X.env)).any (·.1) = false := by rfl) : EW X t n (.Call (.Name x p) (e :: es) [] pos) σ R W :=
  .of (pe_callTy hc hg hm hv pa_ew hn hdb he hpl) fun H Q bx sb q => ⟨t, n, R, Ws, bx, sb, ha, fun vs H1 R1 m ds b1 g dvs w => by
    obtain ⟨d, w2, z⟩ := k m ds w
    refine z vs R1 H1 Q g.sub (g.inn.trans (hid_le t H1)) dvs fun v H' R' g' dv => ?_
    obtain ⟨g3, b3⟩ := g'.box g.inn b1
    exact q v H' R' m d b3 (g.trans g3) dv w2⟩
theorem ew_call {k : Nat} {x : Str} {p : Pos} {ps : List Str} {pre : List PyData → PyData → Prop} (F : Df X.prog X.w X.K X.mg X.base k x ps (spD X.K pre)) (hr : Room k X.A) (ha : EWs X t n (e :: es) σ R Ws) (hp : ∀ m ds, Ws m ds → ∃ d, pre ds d ∧ W m d) (hg : Gl X x := by rfl) (hdb : (x == ("__debug__" : Str)) = false := by decide)
    (he : starEach (e :: es) X.env = (false, eval e X.env) :: starEach es X.env := by rfl) (hpl : (backTo pos (starEach es X.env)).any (·.1) = false := by rfl) : EW X t n (.Call (.Name x p) (e :: es) [] pos) σ R W := by
  obtain ⟨fa, fd, a, b, c, g⟩ := F
  refine .of (pe_call a hr hg b c g .nil pass0 pa_ew hdb he hpl) fun H Q bx sb q => ⟨t, n, R, Ws, bx, sb, ha, fun vs H1 R1 m ds b1 g dvs w => ?_⟩
  obtain ⟨d, hp, w2⟩ := hp m ds w
  show spD X.K pre (vs ++ []) H1 Q E0
  rw [List.append_nil]
  refine ⟨R1, ds, d, g.inn.trans (hid_le t H1), dvs, hp, fun v H' R' g' dv => ?_⟩
  obtain ⟨g3, b3⟩ := g'.box g.inn b1
  exact q v H' R' m d b3 (g.trans g3) dv w2
/-- the promise of a def whose first argument is the box -/
def spW (K : PySem.W.Frag) (pre : Nat → List PyData → Nat → PyData → Prop) (lim : Nat) : Sp := fun vs H Q _ => ∃ t us n R ds, vs = .ref t :: us ∧ n ≤ lim ∧ Box n H t ∧ Same R (hid (some t) H) ∧ DvAll K R us ds ∧ (∃ m d, pre n ds m d) ∧
  ∀ v H' R' m d, Box m H' t → Grow R (hid (some t) H) R' (hid (some t) H') → Dv K R' v d → pre n ds m d → Q v H'
theorem ew_draw {k i lim : Nat} {x y : Str} {p py : Pos} {t : Addr} {ps : List Str} {pre : Nat → List PyData → Nat → PyData → Prop} (F : Df X.prog X.w X.K X.mg X.base k x ps (spW X.K pre lim)) (hr : Room k X.A) (hσ : σ[i]? = some (some (.ref t))) (ha : EWs X (some t) n es σ R Ws)
    (hp : ∀ m ds, Ws m ds → m ≤ lim ∧ (∃ j d, pre m ds j d) ∧ ∀ j d, pre m ds j d → W j d) (hN : X.N[i]? = some y := by rfl) (hv : Vis X.env.scope y := by first | exact Or.inl rfl | exact Or.inr (Or.inl rfl) | exact Or.inr (Or.inr rfl))
    (hdy : (y == ("__debug__" : Str)) = false := by decide) (hcd : (y == ("__classdict__" : Str)) = false := by decide) (hg : Gl X x := by rfl) (hdb : (x == ("__debug__" : Str)) = false := by decide)
    (he : starEach (.Name y py :: es) X.env = (false, eval (.Name y py) X.env) :: starEach es X.env := by rfl) (hpl : (backTo pos (starEach es X.env)).any (·.1) = false := by rfl) : EW X (some t) n (.Call (.Name x p) (.Name y py :: es) [] pos) σ R W := by
  obtain ⟨fa, fd, a, b, c, g⟩ := F
  refine .of (pe_call a hr hg b c g .nil pass0 (pa_cons (pe_var hN hv hdy hcd) pa_ew he) hdb he hpl) fun H Q bx sb q => ⟨.ref t, hσ, some t, n, R, Ws, bx, sb, ha, fun vs H1 R1 m ds b1 g dvs w => ?_⟩
  obtain ⟨h1, h2, h3⟩ := hp m ds w
  show spW X.K pre lim ((.ref t :: vs) ++ []) H1 Q E0
  rw [List.append_nil]
  exact ⟨t, vs, m, R1, ds, rfl, h1, b1, g.inn, dvs, h2, fun v H' R' j d b' g' dv w' => q v H' R' j d b' (g.trans g') dv (h3 j d w')⟩
end
end NF

set_option Elab.async false
set_option linter.all false
set_option maxRecDepth 100000
set_option maxHeartbeats 2000000
namespace NF
open PySem PySem.Spec PyProof.Rows L2

structure EIW (X : Cx) (t : Option Addr) (n : Nat) (tg iter : Expr) (σ : L2.St) (R : Hp) (W : Nat → List PyData → Prop) : Prop where
  run : ∀ (pins : List (Addr × Obj)) (s : Shared) (H : Hp) (Rt : It → Hp → Prop), Inv X pins σ H s → BoxO t n H → Same R (hid t H) → (∀ J H' R' m ds, BoxO t m H' → Grow R (hid t H) R' (hid t H') → WD X.K J R' ds → W m ds → Rt J H') →
    wpAny (model X.prog X.w) X.A (eval iter X.env) (fun v s1 => wpAny (model X.prog X.w) X.A (pyIter v) (PIE X pins σ tg Rt) X.xe s1) X.xe s
def tEIW (X : Cx) (tg iter : Expr) : TI := fun σ H Rt => ∃ t n R W, BoxO t n H ∧ Same R (hid t H) ∧ EIW X t n tg iter σ R W ∧ ∀ J H' R' m ds, BoxO t m H' → Grow R (hid t H) R' (hid t H') → WD X.K J R' ds → W m ds → Rt J H'
theorem pi_ew {X : Cx} {tg iter : Expr} : PI X tg iter (tEIW X tg iter) := ⟨fun pins s σ H Rt I ⟨t, n, R, W, bx, sb, p, k⟩ => p.run pins s H Rt I bx sb k⟩
section
variable {X : Cx} {t : Option Addr} {n : Nat} {tg iter e elt : Expr} {σ : L2.St} {R R1 : Hp} {ds : List PyData} {W : Nat → List PyData → Prop} {We : Nat → PyData → Prop} {pos p : Pos}
theorem eiw_pid (h : PID X tg iter σ R ds) (w : W n ds) : EIW X t n tg iter σ R W := ⟨fun pins s H Rt I bx sb k => h.run pins s H Rt I (sb.trans (hid_le t H)) fun J H' R' g wd =>
  let ⟨g1, b1⟩ := g.box sb bx
  k J H' R' n ds b1 g1 wd w⟩
theorem eiw_range (B : Blt X.mg) (ha : EW X t n e σ R We) (w : ∀ m d, We m d → ∃ j : Int, d = .int j ∧ -(2 ^ 62) ≤ j ∧ j < 2 ^ 62 ∧ W m (rangeD j.toNat)) (hg : Gl X "range" := by rfl) (he : starEach [e] X.env = [(false, eval e X.env)] := by rfl) : EIW X t n tg (.Call (.Name "range" p) [e] [] pos) σ R W :=
  ⟨fun pins s H Rt I bx sb k => (pi_range1 hg B.range (pa_cons pe_ew pa_nil he) he).run pins s σ H Rt I ⟨t, n, R, We, bx, sb, ha, fun v H' R' m d b' g dv w1 => by
    obtain ⟨j, rfl, h1, h2, w2⟩ := w m d w1
    cases dv
    exact ⟨j, rfl, h1, h2, k _ H' R' m _ b' g (wd_range _) w2⟩⟩⟩
/-- a comprehension whose element draws: c draws a turn -/
theorem ew_lc {scope : Scope} {own : List (Str × Nat)} {g : TG} {c lim : Nat} {We : Nat → PyData → Prop} {Pe : PyData → Prop} (hc : X.calm = true) (hN : X.N.Nodup) (hi : EIW X t n tg iter σ R W) (ok : BlkOk X.N X.env.scope scope own)
    (hl : ∀ m ds, W m ds → ds.length ≤ 1000 ∧ m + c * ds.length ≤ lim) (hw : ∀ m ds es k, W m ds → es.length = ds.length → (∀ e ∈ es, Pe e) → k ≤ m + c * ds.length → We k (.list es))
    (hg : ∀ (s : Shared) (H : Hp) (C : Addr) (cl : List (Str × Addr)) (fp : List Addr), PG (X.blk s H scope (compEnvC scope cl C X.env) fp) tg g)
    (turn : ∀ (m : Nat) (ds : List PyData) (j : Nat) (d : PyData) (v : V) (R1 H1 : Hp) (k : L2.St → Hp → Prop), W m ds → d ∈ ds → j + c ≤ lim → Same R R1 → Same R1 H1 → Dv X.K R1 v d →
      (∀ σ2, wipe σ2 (own.map (·.2)) = wipe σ (own.map (·.2)) → (∀ (s : Shared) (H : Hp) (C : Addr) (cl : List (Str × Addr)) (fp : List Addr), EW (X.blk s H scope (compEnvC scope cl C X.env) fp) t j elt σ2 R1 (fun i e => i ≤ j + c ∧ Pe e)) → k σ2 H1) → g v (wipe σ (own.map (·.2))) H1 k)
    (hs : ∀ x, foldedSetIterable iter X.env x = pure x := by intro _; rfl) : EW X t n (.ListComp elt [⟨tg, iter, [], 0⟩] scope pos) σ R We := by
  let te : TE := fun σ2 H Q => ∃ t j R1 W, BoxO t j H ∧ Same R1 (hid t H) ∧ (∀ (s : Shared) (H : Hp) (C : Addr) (cl : List (Str × Addr)) (fp : List Addr), EW (X.blk s H scope (compEnvC scope cl C X.env) fp) t j elt σ2 R1 W) ∧
    ∀ v H' R' m d, BoxO t m H' → Grow R1 (hid t H) R' (hid t H') → Dv X.K R' v d → W m d → Q v H'
  have he : ∀ (s : Shared) (H : Hp) (C : Addr) (cl : List (Str × Addr)) (fp : List Addr), PE (X.blk s H scope (compEnvC scope cl C X.env) fp) elt te := fun s0 H0 C cl fp => ⟨fun pins s σ H Q I ⟨t, j, R1, W, bx, sb, p, k⟩ => (p s0 H0 C cl fp).run pins s H Q I bx sb k⟩
  refine .of (pe_lc hc hN pi_ew ok hg (fun s0 H0 C cl fp => pts_nil) he hs) fun H Q bx sb q => ⟨t, n, R, W, bx, sb, hi, fun J H1 R1 m0 ds b1 g1 w hW D hD => ?_⟩
  obtain ⟨hl1, hl2⟩ := hl m0 ds hW
  have nt : t ≠ some D := fun e => by
    subst e
    obtain ⟨_, _, _, z, _⟩ := b1
    rw [hD] at z; cases z
  have hup : ∀ {H' : Hp} {o : HO}, hid t (upd H' D o) = upd (hid t H') D o := by
    intro H' o
    cases t with
    | none => rfl
    | some t0 =>
      funext a
      by_cases z : a = t0
      · subst z
        rw [hid_self, upd_ne (fun e => nt (by rw [e])), hid_self]
      · rw [hid_some z]
        by_cases z2 : a = D
        · subst z2
          rw [upd_same, upd_same]
        · rw [upd_ne z2, upd_ne z2, hid_some z]
  have hat : ∀ {H' : Hp}, hid t H' D = H' D := by
    intro H'
    cases t with
    | none => rfl
    | some t0 => exact hid_some (fun e => nt (by rw [e]))
  have hD1 : hid t H1 D = none := by rw [hat]; exact hD
  refine ⟨fun i m H2 => m = ds.length - i ∧ i ≤ ds.length ∧ ∃ R2 acc es j, j ≤ m0 + c * i ∧ BoxO t j H2 ∧ Grow R1 (hid t H1) R2 (hid t H2) ∧ R2 D = none ∧ H2 D = some (.lst acc) ∧ DvAll X.K R2 acc es ∧ es.length = i ∧ ∀ e ∈ es, Pe e,
    ⟨ds.length, by simp, Nat.zero_le _, R1, [], [], m0, by omega, b1.put (fun e => nt e), by rw [hup]; exact Grow.hide g1.inn hD1, g1.inn.free hD1, upd_same, .nil, rfl, fun e he => nomatch he⟩, ?_⟩
  rintro i m H2 ⟨rfl, hle, R2, acc, es, j, hj, b2, g2, r2, hD2, dvs, le, pe⟩
  have lacc : acc.length = i := by rw [DvAll.len dvs, le]
  have s2 : Same R2 H2 := g2.inn.trans (hid_le t H2)
  by_cases hlt : i < ds.length
  · refine .inr ⟨w.goes i R2 H2 g2.sub s2 hlt, fun H3 => ∃ R3 acc es j, j ≤ m0 + c * (i + 1) ∧ BoxO t j H3 ∧ Grow R1 (hid t H1) R3 (hid t H3) ∧ R3 D = none ∧ H3 D = some (.lst acc) ∧ DvAll X.K R3 acc es ∧ es.length = i + 1 ∧ ∀ e ∈ es, Pe e,
      fun H3 h3 => ⟨ds.length - (i + 1), by omega, rfl, hlt, h3⟩, fun x H3 y => ?_⟩
    obtain ⟨R3, d, g3, ed, dv⟩ := w.yields i R2 H2 x H3 g2.sub s2 hlt y
    obtain ⟨g3', b3⟩ := g3.box g2.inn b2
    have off3 := g3.off r2 hD2
    have hcl : c * i + c ≤ c * ds.length := by
      have := Nat.mul_le_mul_left c (show i + 1 ≤ ds.length from hlt)
      rw [Nat.mul_succ] at this
      exact this
    refine turn m0 ds j d x R3 H3 _ hW (List.mem_of_getElem? ed) (by omega) ((g1.sub.trans g2.sub).trans g3.sub) g3.inn dv fun σ2 hw2 pelt => ⟨hw2, ?_⟩
    change te σ2 H3 _
    refine ⟨t, j, R3, _, b3, g3'.inn, pelt, fun v H4 R4 m4 e4 b4 g4 dv4 w4 => ?_⟩
    have o4 : hid t H3 D = some (.lst acc) := by rw [hat]; exact off3.2
    have off4 := g4.off off3.1 o4
    rw [hat] at off4
    have g14 := (g2.trans g3').trans g4
    refine ⟨acc, off4.2, by rw [lacc]; exact Nat.lt_of_lt_of_le (Nat.lt_of_lt_of_le hlt hl1) (by decide), R4, acc ++ [v], es ++ [e4], m4, by
      have q1 := w4.1
      rw [Nat.mul_succ]
      omega, b4.put (fun e => nt e), ?_, off4.1, upd_same, (DvAll_mono (g3'.sub.trans g4.sub) dvs).app (.cons dv4 .nil), by rw [List.length_append, le] <;> rfl, fun e he => ?_⟩
    · rw [hup]
      refine ⟨fun a o ea => ?_, g14.sub, fun a o ea => ?_, g14.new⟩
      · have na : a ≠ D := ne_of_none ea hD1
        rw [upd_ne na]
        exact g14.ext _ _ ea
      · have na : a ≠ D := fun z => by rw [z, off4.1] at ea; cases ea
        rw [upd_ne na]
        exact g14.inn _ _ ea
    · rcases List.mem_append.mp he with z | z
      · exact pe e z
      · rw [List.mem_singleton.mp z]; exact w4.2
  · have ei : i = ds.length := by omega
    subst ei
    have o2 : hid t H2 D = some (.lst acc) := by rw [hat]; exact hD2
    refine .inl ⟨w.stops R2 H2 g2.sub s2, q (.ref D) H2 (upd R2 D (.lst acc)) j (.list es) b2 (g1.trans ⟨g2.ext, g2.sub.trans (same_upd r2), fun a o ea => ?_, fun a o ea => ?_⟩) (.lst upd_same (DvAll_mono (same_upd r2) dvs)) (hw m0 ds es j hW le pe hj)⟩
    · by_cases na : a = D
      · subst na
        rw [upd_same] at ea
        rw [o2]
        exact ea
      · rw [upd_ne na] at ea
        exact g2.inn _ _ ea
    · by_cases na : a = D
      · subst na
        exact .inr hD1
      · rw [upd_ne na] at ea
        exact g2.new _ _ ea
end

theorem same_put {P R : Hp} {l : Addr} {o : HO} (s : Same P R) (h : P l = none) : Same P (upd R l o) := fun a u e => by
  rw [upd_ne (ne_of_none e h)]
  exact s _ _ e
/-- R0: what was readable at the start; P: what isn't written here; R: what is readable. N: how it may fall through; T: what may be handed back -/
structure SW (X : Cx) (t : Option Addr) (n : Nat) (body : List Stmt) (σ : L2.St) (R0 P R : Hp) (N : Nat → L2.St → Hp → Prop) (T : Nat → PyData → Prop) : Prop where
  run : ∀ (pins : List (Addr × Obj)) (s : Shared) (H0 H : Hp) (D : Ends), Inv X pins σ H s → BoxO t n H → Grow R0 H0 R (hid t H) → Same P R →
    (∀ σ' H' R' m, BoxO t m H' → Grow R0 H0 R' (hid t H') → Same P R' → N m σ' R' → D.nx σ' H') → (∀ v H' R' m d, BoxO t m H' → Grow R0 H0 R' (hid t H') → Dv X.K R' v d → T m d → D.rt v H') →
    wpAny (model X.prog X.w) X.A (execs body X.env) (SP X pins D) X.xe s
def tSW (X : Cx) (body : List Stmt) : TS := fun D σ H => ∃ t n R0 P R H0 N T, BoxO t n H ∧ Grow R0 H0 R (hid t H) ∧ Same P R ∧ SW X t n body σ R0 P R N T ∧
    (∀ σ' H' R' m, BoxO t m H' → Grow R0 H0 R' (hid t H') → Same P R' → N m σ' R' → D.nx σ' H') ∧ (∀ v H' R' m d, BoxO t m H' → Grow R0 H0 R' (hid t H') → Dv X.K R' v d → T m d → D.rt v H')
theorem pss_sw {X : Cx} {body : List Stmt} : PSs X body (tSW X body) := ⟨fun pins s σ H D I ⟨t, n, R0, P, R, H0, N, T, bx, g, sp, p, kn, kt⟩ => p.run pins s H0 H D I bx g sp kn kt⟩
section
variable {X : Cx} {t : Option Addr} {n : Nat} {body rest els : List Stmt} {st : Stmt} {tg iter e c : Expr} {σ : L2.St} {R0 P R : Hp} {N M : Nat → L2.St → Hp → Prop} {T : Nat → PyData → Prop} {W : Nat → PyData → Prop} {Wl : Nat → List PyData → Prop} {d : PyData} {ds : List PyData} {pos pos' p : Pos}
theorem SW.of {ts : TS} (h : PSs X body ts) (ev : ∀ (H0 H : Hp) (D : Ends), BoxO t n H → Grow R0 H0 R (hid t H) → Same P R →
    (∀ σ' H' R' m, BoxO t m H' → Grow R0 H0 R' (hid t H') → Same P R' → N m σ' R' → D.nx σ' H') → (∀ v H' R' m d, BoxO t m H' → Grow R0 H0 R' (hid t H') → Dv X.K R' v d → T m d → D.rt v H') → ts D σ H) : SW X t n body σ R0 P R N T :=
  ⟨fun pins s H0 H D I bx g sp kn kt => h.run pins s σ H D I (ev H0 H D bx g sp kn kt)⟩
theorem sw_nil (w : N n σ R) : SW X t n [] σ R0 P R N T := .of pss_nil fun H0 H D bx g sp kn kt => kn σ H R n bx g sp w
theorem sw_ret (he : EW X t n e σ R T) : SW X t n (.Return (some e) pos :: rest) σ R0 P R N T :=
  .of (pss_cons (ps_ret pe_ew) (pss_never (sts := rest))) fun H0 H D bx g sp kn kt => ⟨t, n, R, T, bx, g.inn, he, fun v H' R' m d b' g' dv w => kt v H' R' m d b' (g.trans g') dv w⟩
theorem sw_retD (he : PD X e σ R d) (w : T n d) : SW X t n (.Return (some e) pos :: rest) σ R0 P R N T := sw_ret (ew_pd he w)
theorem sw_set (i : Nat) {x : Str} (nd : X.N.Nodup) (he : EW X t n e σ R W) (q : ∀ v R1 m d, Same R R1 → Dv X.K R1 v d → W m d → SW X t m rest (σ.set i (some v)) R0 P R1 N T) (hi : X.N[i]? = some x := by rfl) (hx : Loc X.env.scope x := by first | exact Or.inl rfl | exact Or.inr rfl)
    (hs : swapsWith e (some (.Name x pos')) pos.line X.env = pure false := by rfl) (hf : X.fn x = true ∨ X.env.scope.names.lookup x = some .local := by first | exact .inl rfl | exact .inr rfl) : SW X t n (.Assign [.Name x pos'] e pos :: rest) σ R0 P R N T :=
  .of (pss_cons (ps_set nd hi hx pe_ew hs hf) pss_sw) fun H0 H D bx g sp kn kt => ⟨t, n, R, W, bx, g.inn, he, fun v H' R' m d b' g' dv w => ⟨t, m, R0, P, R', H0, N, T, b', g.trans g', sp.trans g'.sub, q v R' m d g'.sub dv w, kn, kt⟩⟩
theorem sw_setD (i : Nat) {x : Str} (nd : X.N.Nodup) (he : PD X e σ R d) (q : ∀ v R1, Same R R1 → Dv X.K R1 v d → SW X t n rest (σ.set i (some v)) R0 P R1 N T) (hi : X.N[i]? = some x := by rfl) (hx : Loc X.env.scope x := by first | exact Or.inl rfl | exact Or.inr rfl)
    (hs : swapsWith e (some (.Name x pos')) pos.line X.env = pure false := by rfl) (hf : X.fn x = true ∨ X.env.scope.names.lookup x = some .local := by first | exact .inl rfl | exact .inr rfl) : SW X t n (.Assign [.Name x pos'] e pos :: rest) σ R0 P R N T :=
  sw_set (W := fun m d' => m = n ∧ d' = d) i nd (ew_pd he ⟨rfl, rfl⟩) (fun v R1 m d' s dv ⟨e1, e2⟩ => by subst e2; rw [e1]; exact q v R1 s dv) hi hx hs hf
theorem sw_if {Wc : Nat → Bool → Prop} (hc : EWT X t n c σ R Wc) (ha : ∀ m R1, Same R R1 → Wc m true → SW X t m body σ R0 P R1 M T) (hb : ∀ m R1, Same R R1 → Wc m false → SW X t m els σ R0 P R1 M T) (hr : ∀ m σ' R', Same P R' → M m σ' R' → SW X t m rest σ' R0 P R' N T) :
    SW X t n (.If c body els pos :: rest) σ R0 P R N T :=
  .of (pss_cons (ps_if pt_ew pss_sw pss_sw) pss_sw) fun H0 H D bx g sp kn kt => ⟨t, n, R, Wc, bx, g.inn, hc, fun H' R' m b b' g' w => by
    have kn' : ∀ σ' H' R' m, BoxO t m H' → Grow R0 H0 R' (hid t H') → Same P R' → M m σ' R' → tSW X rest D σ' H' := fun σ2 H2 R2 m2 b2 g2 s2 w2 => ⟨t, m2, R0, P, R2, H0, N, T, b2, g2, s2, hr m2 σ2 R2 s2 w2, kn, kt⟩
    cases b with
    | true => exact ⟨t, m, R0, P, R', H0, M, T, b', g.trans g', sp.trans g'.sub, ha m R' g'.sub w, kn', kt⟩
    | false => exact ⟨t, m, R0, P, R', H0, M, T, b', g.trans g', sp.trans g'.sub, hb m R' g'.sub w, kn', kt⟩⟩
theorem sw_ifD {b : Bool} (hc : PTD X c σ R b) (ha : b = true → ∀ R1, Same R R1 → SW X t n body σ R0 P R1 M T) (hb : b = false → ∀ R1, Same R R1 → SW X t n els σ R0 P R1 M T) (hr : ∀ m σ' R', Same P R' → M m σ' R' → SW X t m rest σ' R0 P R' N T) :
    SW X t n (.If c body els pos :: rest) σ R0 P R N T :=
  sw_if (Wc := fun m c => m = n ∧ c = b) (ewt_pt hc ⟨rfl, rfl⟩) (fun m R1 s ⟨e1, e2⟩ => by rw [e1]; exact ha e2.symm R1 s) (fun m R1 s ⟨e1, e2⟩ => by rw [e1]; exact hb e2.symm R1 s) hr
/-- a test whose way ahead hands back -/
theorem sw_ifR {b : Bool} (hc : PTD X c σ R b) (ha : b = true → ∀ R1, Same R R1 → SW X t n body σ R0 P R1 (fun _ _ _ => False) T) (hb : b = false → ∀ R1, Same R R1 → SW X t n rest σ R0 P R1 N T) :
    SW X t n (.If c body [] pos :: rest) σ R0 P R N T :=
  sw_ifD (M := fun m σ' R' => m = n ∧ σ' = σ ∧ b = false ∧ Same R R') hc (fun q R1 s => ⟨fun pins sh H0 H D I bx g sp kn kt => (ha q R1 s).run pins sh H0 H D I bx g sp (fun _ _ _ _ _ _ _ z => z.elim) kt⟩) (fun q R1 s => sw_nil ⟨rfl, rfl, q, s⟩) fun m σ' R' s ⟨e1, e2, q, s2⟩ => by subst e2; rw [e1]; exact hb q R' s2

theorem sw_app {i l : Nat} {x : Str} {px pa pc : Pos} {xs : List V} (hσ : σ[i]? = some (some (.ref l))) (hl : R l = some (.lst xs)) (h0 : R0 l = none) (hP : P l = none) (hz : xs.length < sizeLine) (he : EW X t n e σ R W)
    (q : ∀ v R1 m d, Same R R1 → Dv X.K R1 v d → W m d → R1 l = some (.lst xs) → SW X t m rest σ R0 P (upd R1 l (.lst (xs ++ [v]))) N T)
    (hN : X.N[i]? = some x := by rfl) (hv : Vis X.env.scope x := by first | exact Or.inl rfl | exact Or.inr (Or.inl rfl) | exact Or.inr (Or.inr rfl)) (hdb : (x == ("__debug__" : Str)) = false := by decide) (hcd : (x == ("__classdict__" : Str)) = false := by decide)
    (hbase : attributeBase (.Name x px) "append" X.env (eval (.Name x px) X.env) = eval (.Name x px) X.env := by rfl)
    (hfew : ((backTo pc (starEach [e] X.env)).all (fun x => !x.1) && (backToKw pc (keywordEach [] X.env)).all (fun x => x.1.isSome) && decide ([e].length + ([] : List Keyword).length + (if ([] : List Keyword).isEmpty then 0 else 1) < 30)) = true := by rfl)
    (hline : (pa.endLine == pc.line) = true := by rfl) (hs : starEach [e] X.env = (false, eval e X.env) :: starEach [] X.env := by rfl) (hplain : (backTo pc (starEach [] X.env)).any (·.1) = false := by rfl) (hsw : swapsWith (.Call (.Attribute (.Name x px) "append" pa) [e] [] pc) none pos.line X.env = pure false := by rfl) :
    SW X t n (.Expr (.Call (.Attribute (.Name x px) "append" pa) [e] [] pc) pos :: rest) σ R0 P R N T :=
  .of (pss_cons (ps_expr (pe_bm PySem.F.plainAttrs_list PySem.F.slot_list_append PySem.F.type_list_append mt_append (pe_var hN hv hdb hcd) (pa_cons pe_ew pa_nil hs) hbase hfew hline hs hplain) hsw) pss_sw) fun H0 H D bx g sp kn kt =>
    ⟨.ref l, hσ, .inl ⟨rfl, xs, SqL.of (hid_le t H _ _ (g.inn _ _ hl))⟩, t, n, R, W, bx, g.inn, he, fun v H' R' m d b' g' dv w => by
      have hl' := g'.sub _ _ hl
      obtain ⟨gp, nt⟩ := (g.trans g').put (o' := .lst (xs ++ [v])) h0 hl'
      exact ⟨l, xs, v, rfl, rfl, hid_le t H' _ _ (g'.inn _ _ hl'), hz, t, m, R0, P, _, H0, N, T, b'.put nt, gp, same_put (sp.trans g'.sub) hP, q v R' m d g'.sub dv w hl', kn, kt⟩⟩
/-- found[j] = e -/
theorem sw_put {i l : Nat} {x : Str} {ix : Expr} {k : Int} {j : Nat} {px ps : Pos} {xs : List V} (hσ : σ[i]? = some (some (.ref l))) (hl : R l = some (.lst xs)) (h0 : R0 l = none) (hP : P l = none) (hj : ixN xs.length k = some j) (he : EW X t n e σ R W) (hix : ∀ R1, Same R R1 → PD X ix σ R1 (.int k))
    (q : ∀ v R1 m d, Same R R1 → Dv X.K R1 v d → W m d → R1 l = some (.lst xs) → SW X t m rest σ R0 P (upd R1 l (.lst (xs.set j v))) N T)
    (hN : X.N[i]? = some x := by rfl) (hv : Vis X.env.scope x := by first | exact Or.inl rfl | exact Or.inr (Or.inl rfl) | exact Or.inr (Or.inr rfl)) (hdb : (x == ("__debug__" : Str)) = false := by decide) (hcd : (x == ("__classdict__" : Str)) = false := by decide)
    (ha : ∀ v, assign (.Subscript (.Name x px) ix ps) X.env v = (do
      let ov ← holding [v] (eval (.Name x px) X.env)
      let iv ← holding [v, ov] (eval ix X.env)
      standAt ps
      holding [v, ov, iv] (setItem ov iv v)
      release [v, ov, iv] []) := by intro _; rfl)
    (hs : swapsWithSole [.Subscript (.Name x px) ix ps] e pos.line X.env = pure false := by rfl) (hw : swappedStores [.Subscript (.Name x px) ix ps] e X.env = pure none := by rfl)
    (h1 : (assignEach [.Subscript (.Name x px) ix ps] X.env).map (·.2) = [assign (.Subscript (.Name x px) ix ps) X.env] := by rfl) :
    SW X t n (.Assign [.Subscript (.Name x px) ix ps] e pos :: rest) σ R0 P R N T :=
  .of (pss_cons (ps_asg pe_ew (pg_sub (pe_var hN hv hdb hcd) pe_pd set_list ha) hs hw h1) pss_sw) fun H0 H D bx g sp kn kt =>
    ⟨t, n, R, W, bx, g.inn, he, fun v H' R' m d b' g' dv w => ⟨.ref l, hσ, R', .int k, g'.inn.trans (hid_le t H'), hix R' g'.sub, fun iv H2 R2 g2 div => by
      cases div
      obtain ⟨g3, b3⟩ := g2.box g'.inn b'
      have hl' := g3.sub _ _ (g'.sub _ _ hl)
      obtain ⟨gp, nt⟩ := ((g.trans g').trans g3).put (o' := .lst (xs.set j v)) h0 hl'
      exact ⟨l, xs, k, j, rfl, rfl, hid_le t H2 _ _ (g3.inn _ _ hl'), hj, t, m, R0, P, _, H0, N, T, b3.put nt, gp, same_put ((sp.trans g'.sub).trans g3.sub) hP, q v R2 m d (g'.sub.trans g3.sub) (Dv_mono g3.sub dv) w hl', kn, kt⟩⟩⟩
/-- an expression that makes a list of one's own -/
structure FL (X : Cx) (e : Expr) (σ : L2.St) (R : Hp) (ds : List PyData) : Prop where
  run : ∀ (pins : List (Addr × Obj)) (s : Shared) (H : Hp) (Q : VK), Inv X pins σ H s → Same R H → (∀ l xs H' R', Grow R H R' H' → H l = none → R' l = some (.lst xs) → DvAll X.K R' xs ds → Q (.ref l) H') → wpAny (model X.prog X.w) X.A (eval e X.env) (EP X pins σ Q) X.xe s
def tFL (X : Cx) (e : Expr) : TE := fun σ H Q => ∃ R ds, Same R H ∧ FL X e σ R ds ∧ ∀ l xs H' R', Grow R H R' H' → H l = none → R' l = some (.lst xs) → DvAll X.K R' xs ds → Q (.ref l) H'
theorem pe_fl : PE X e (tFL X e) := ⟨fun pins s σ H Q I ⟨R, ds, sb, p, k⟩ => p.run pins s H Q I sb k⟩
theorem FL.of {te : TE} (h : PE X e te) (ev : ∀ (H : Hp) (Q : VK), Same R H → (∀ l xs H' R', Grow R H R' H' → H l = none → R' l = some (.lst xs) → DvAll X.K R' xs ds → Q (.ref l) H') → te σ H Q) : FL X e σ R ds :=
  ⟨fun pins s H Q I sb k => h.run pins s σ H Q I (ev H Q sb k)⟩
theorem FL.mono {R1 : Hp} (h : FL X e σ R ds) (s : Same R R1) : FL X e σ R1 ds := ⟨fun pins sh H Q I sb k => h.run pins sh H Q I (s.trans sb) fun l xs H' R' g hl r dv =>
  let ⟨g1, s1⟩ := g.wide s sb
  k l xs H' _ g1 hl (s1 _ _ r) (DvAll_mono s1 dv)⟩
theorem fl_nil : FL X (.List [] pos) σ R [] := .of (pe_lst pa_nil) fun H Q sb k => ⟨Nat.zero_le _, fun p hp => k p [] _ _ (Grow.add sb hp) hp upd_same .nil⟩
theorem fl_list {a : Expr} (B : Blt X.mg) (ha : PD X a σ R d) (q : SeqD d ds) (hg : Gl X "list" := by rfl) (he : starEach [a] X.env = (false, eval a X.env) :: starEach [] X.env := by rfl) : FL X (.Call (.Name "list" p) [a] [] pos) σ R ds :=
  .of (pe_callTy call_list_of hg B.list PyProof.Rows.boot_list (pa_cons pe_pd pa_nil he) (by decide) (by decide) he) fun H Q sb k => ⟨R, d, sb, ha, fun v H1 R1 g dv => by
    obtain ⟨p, xs, rfl, hs, hx⟩ := dv.seq q
    refine ⟨p, xs, rfl, ?_, fun l hl => k l xs _ _ (g.trans (Grow.add g.inn hl)) (g.ext.free hl) upd_same (DvAll_mono (same_upd (g.inn.free hl)) hx)⟩
    rcases hs with hs | hs
    · exact .inl (g.inn.seq hs)
    · exact .inr (same_tup g.inn hs)⟩
theorem sw_setF (i : Nat) {x : Str} (nd : X.N.Nodup) (he : FL X e σ R ds) (q : ∀ l xs R1, Same R R1 → R1 l = some (.lst xs) → DvAll X.K R1 xs ds → R0 l = none → R l = none → P l = none → SW X t n rest (σ.set i (some (.ref l))) R0 P R1 N T) (hi : X.N[i]? = some x := by rfl) (hx : Loc X.env.scope x := by first | exact Or.inl rfl | exact Or.inr rfl)
    (hs : swapsWith e (some (.Name x pos')) pos.line X.env = pure false := by rfl) (hf : X.fn x = true ∨ X.env.scope.names.lookup x = some .local := by first | exact .inl rfl | exact .inr rfl) : SW X t n (.Assign [.Name x pos'] e pos :: rest) σ R0 P R N T :=
  .of (pss_cons (ps_set nd hi hx pe_fl hs hf) pss_sw) fun H0 H D bx g sp kn kt => ⟨R, ds, g.inn.trans (hid_le t H), he, fun l xs H' R' g' hl r dv => by
    obtain ⟨g1, b1⟩ := g'.box g.inn bx
    have rl : R l = none := (g.inn.trans (hid_le t H)).free hl
    exact ⟨t, n, R0, P, R', H0, N, T, b1, g.trans g1, sp.trans g'.sub, q l xs R' g'.sub r dv (g.sub.free rl) rl (sp.free rl), kn, kt⟩⟩
theorem sw_for {g : TG} (hp : PassesOwn (model X.prog X.w) X.A X.env X.xe) (hc : X.calm = true) (hi : EIW X t n tg iter σ P Wl) (hg : PG X tg g)
    (go : ∀ P1 m ds, Same P P1 → (∀ a, R a ≠ none → P a = none → P1 a = none) → Wl m ds → ∃ Pv : Nat → Nat → L2.St → Hp → Prop, (∀ R1, Same R R1 → Same P1 R1 → Pv 0 m σ R1) ∧ (∀ i m σ R R', Pv i m σ R → Same R R' → Pv i m σ R') ∧
      (∀ i d v j σ' R' H1 k, ds[i]? = some d → Pv i j σ' R' → Same P1 R' → Dv X.K R' v d → Same R' H1 → (∀ σ2, SW X t j body σ2 R0 P1 R' (Pv (i + 1)) T → k σ2 H1) → g v σ' H1 k) ∧
      ∀ j σ' R', Pv ds.length j σ' R' → Same P R' → SW X t j rest σ' R0 P R' N T)
    (hs : ∀ x, foldedSetIterable iter X.env x = pure x := by intro _; rfl) : SW X t n (.For tg iter body [] pos :: rest) σ R0 P R N T :=
  .of (pss_cons (ps_for hp hc pi_ew hg pss_sw hs) pss_sw) fun H0 H D bx g sp kn kt => ⟨t, n, P, Wl, bx, sp.trans g.inn, hi, fun J H1 P1 m ds b1 g1 w wl => by
    have hPn : ∀ a, R a ≠ none → P a = none → P1 a = none := fun a ra pa => by
      cases e : P1 a with
      | none => rfl
      | some o =>
        rcases g1.new _ _ e with z | z
        · rw [pa] at z; cases z
        · exact absurd (g.inn.free z) ra
    obtain ⟨Pv, h0, mo, tu, dn⟩ := go P1 m ds g1.sub hPn wl
    obtain ⟨gw, sw⟩ := g1.wide sp g.inn
    have g01 : Grow R0 H0 (join R P1) (hid t H1) := g.trans gw
    refine ⟨fun i q σ' H' => q = ds.length - i ∧ i ≤ ds.length ∧ ∃ R' j, BoxO t j H' ∧ Grow R0 H0 R' (hid t H') ∧ Same P1 R' ∧ Pv i j σ' R', ⟨ds.length, by simp, Nat.zero_le _, join R P1, m, b1, g01, sw, h0 _ gw.sub sw⟩, ?_⟩
    rintro i q σ' H' ⟨rfl, hle, R', j, bj, gj, sj, pv⟩
    by_cases hlt : i < ds.length
    · refine .inr ⟨w.goes i R' H' sj (gj.inn.trans (hid_le t H')) hlt, fun σ2 H2 => ∃ R2 j, BoxO t j H2 ∧ Grow R0 H0 R2 (hid t H2) ∧ Same P1 R2 ∧ Pv (i + 1) j σ2 R2, fun σ2 H2 z => ⟨ds.length - (i + 1), by omega, rfl, hlt, z⟩, fun x H2 y => ?_⟩
      obtain ⟨R2, d, g2, ed, dv⟩ := w.yields i R' H' x H2 sj (gj.inn.trans (hid_le t H')) hlt y
      obtain ⟨g3, b3⟩ := g2.box gj.inn bj
      refine tu i d x j σ' R2 H2 _ ed (mo _ _ _ _ _ pv g2.sub) (sj.trans g2.sub) dv g2.inn fun σ2 sw2 => ⟨t, j, R0, P1, R2, H0, Pv (i + 1), T, b3, gj.trans g3, sj.trans g2.sub, sw2, fun σ3 H3 R3 m3 b4 g4 s4 p4 => ⟨R3, m3, b4, g4, s4, p4⟩, kt⟩
    · have e : i = ds.length := by omega
      subst e
      exact .inl ⟨w.stops R' H' sj (gj.inn.trans (hid_le t H')), t, j, R0, P, R', H0, N, T, bj, gj, g1.sub.trans sj, dn j σ' R' pv (g1.sub.trans sj), kn, kt⟩⟩
end
section
variable {P : Program} {w : World} {K : PySem.W.Frag} {mg : Str → Option Value} {base : Heap}
/-- a def over data, by statements -/
theorem df_sw {x : Str} {st : Stmt} {N ps : List Str} {k : Nat} {pre : List PyData → PyData → Prop} (F : At K mg x st ps) (S : FnScope N ps (defScope st)) (len : ∀ ds d, pre ds d → ds.length = ps.length)
    (body : ∀ (f : Addr) (cdv : Value) (A : Around) (outer : List Env) (s : Shared) (H : Hp) (E : XK) (vs : List V) (R : Hp) (ds : List PyData) (d : PyData), Room k (A.deeper (envOfC x (defScope st) s.heap.objs.size f cdv)) → DvAll K R vs ds → pre ds d →
      SW (dcx P w K mg base N x (defScope st) f cdv A outer s H E) none 0 (defBody st) (start N vs) R R R (fun _ _ _ => False) (fun _ e => e = d)) : Df P w K mg base (k + 1) x ps (spD K pre) := by
  refine df_sp F S (fun vs H Q E h => ?_) fun f cdv A outer s H E vs Q hr h => ?_
  · obtain ⟨R, ds, d, sb, dv, hp, _⟩ := h
    rw [DvAll.len dv, len _ _ hp]
  · obtain ⟨R, ds, d, sb, dv, hp, k⟩ := h
    exact ⟨_, pss_sw, none, 0, R, R, R, H, _, _, trivial, Grow.refl sb, Same.refl _, body f cdv A outer s H E vs R ds d hr dv hp, fun _ _ _ _ _ _ _ z => z.elim, fun v H' R' m e _ g dv' z => by subst z; exact k v H' R' g dv'⟩
/-- a def whose first argument is the box -/
theorem df_box {x : Str} {st : Stmt} {N ps : List Str} {k lim : Nat} {pre : Nat → List PyData → Nat → PyData → Prop} (F : At K mg x st ps) (S : FnScope N ps (defScope st)) (len : ∀ n ds m d, pre n ds m d → ds.length + 1 = ps.length)
    (body : ∀ (f : Addr) (cdv : Value) (A : Around) (outer : List Env) (s : Shared) (H : Hp) (E : XK) (t : Addr) (vs : List V) (R : Hp) (n : Nat) (ds : List PyData) (m : Nat) (d : PyData), Room k (A.deeper (envOfC x (defScope st) s.heap.objs.size f cdv)) → DvAll K R vs ds → n ≤ lim → pre n ds m d →
      SW (dcx P w K mg base N x (defScope st) f cdv A outer s H E) (some t) n (defBody st) (start N (.ref t :: vs)) R R R (fun _ _ _ => False) (fun m e => pre n ds m e)) : Df P w K mg base (k + 1) x ps (spW K pre lim) := by
  refine df_sp F S (fun vs H Q E h => ?_) fun f cdv A outer s H E vs Q hr h => ?_
  · obtain ⟨t, us, n, R, ds, rfl, _, _, _, dv, ⟨m, d, hp⟩, _⟩ := h
    rw [List.length_cons, DvAll.len dv, len _ _ _ _ hp]
  · obtain ⟨t, us, n, R, ds, rfl, hn, bx, sb, dv, ⟨m, d, hp⟩, k⟩ := h
    exact ⟨_, pss_sw, some t, n, R, R, R, hid (some t) H, _, _, bx, Grow.refl sb, Same.refl _, body f cdv A outer s H E t us R n ds m d hr dv hn hp, fun _ _ _ _ _ _ _ z => z.elim, fun v H' R' m e b' g dv' z => k v H' R' m e b' g dv' z⟩
end
end NF

set_option Elab.async false
set_option linter.all false
set_option maxRecDepth 100000
set_option maxHeartbeats 2000000
namespace NF
open PySem PySem.Spec PyProof.Rows L2

theorem nolen_zip : typeLookup (.type "zip") "__len__" = pure none := by rw [typeLookup_type, builtinLookup_eq_fast]; kernel_rfl
theorem nohint_zip : typeLookup (.type "zip") "__length_hint__" = pure none := by rw [typeLookup_type, builtinLookup_eq_fast]; kernel_rfl
structure ZS (z TI TO i1 i2 l1 l2 S : Addr) (xs ys : Array Value) (i : Nat) (h : Heap) : Prop where
  ti : IsPair h TI (.ref i1) (.ref i2)
  h1 : h.IsListIter i1 l1 i
  h2 : h.IsListIter i2 l2 i
  hl1 : h.IsList l1 xs
  hl2 : h.IsList l2 ys
  to : ∃ o, h.get? TO = some o
  st : (IsZip h z TI TO .none ∧ ∃ a b, IsPair h TO a b) ∨ ∃ T f oT, IsZipHeld h z TI TO T f ∧ h.get? T = some oT ∧ T ≠ z ∧ T ≠ i1 ∧ T ≠ i2 ∧ T ≠ S
/-- the list S isn't any of them -/
structure ZOff (z TI TO i1 i2 l1 l2 S : Addr) : Prop where
  z : z ≠ S
  ti : TI ≠ S
  to : TO ≠ S
  i1 : i1 ≠ S
  i2 : i2 ≠ S
  l1 : l1 ≠ S
  l2 : l2 ≠ S
section
variable {z TI TO i1 i2 l1 l2 S : Addr} {xs ys : Array Value} {i n : Nat} {h h' : Heap}
theorem ZS.frame (st : ZS z TI TO i1 i2 l1 l2 S xs ys i h) (o : ZOff z TI TO i1 i2 l1 l2 S) (hk : ∀ b o, b ≠ S → h.get? b = some o → h'.get? b = some o) : ZS z TI TO i1 i2 l1 l2 S xs ys i h' where
  ti := hk _ _ o.ti st.ti
  h1 := st.h1.at fun x e => hk _ x o.i1 e
  h2 := st.h2.at fun x e => hk _ x o.i2 e
  hl1 := st.hl1.at fun x e => hk _ x o.l1 e
  hl2 := st.hl2.at fun x e => hk _ x o.l2 e
  to := let ⟨x, e⟩ := st.to; ⟨x, hk _ _ o.to e⟩
  st := by
    rcases st.st with ⟨hz, a, b, hTO⟩ | ⟨T, f, oT, hz, hT, r1, r2, r3, r4⟩
    · exact .inl ⟨hk _ _ o.z hz, a, b, hk _ _ o.to hTO⟩
    · exact .inr ⟨T, f, oT, hk _ _ o.z hz, hk _ _ r4 hT, r1, r2, r3, r4⟩
variable {prog : Program} {w : World} {A : Around} {E : Value → Shared → Prop} {s : Shared}
theorem zs_item {Q : Option Value → Shared → Prop} {x y : Value} (D : ZipApart z TI TO i1 i2 l1 l2) (st : ZS z TI TO i1 i2 l1 l2 S xs ys i s.heap) (hx : xs[i]? = some x) (hy : ys[i]? = some y) (hS : S < s.heap.objs.size)
    (hQ : ∀ h', IsPair h' s.heap.objs.size x y → ZS z TI TO i1 i2 l1 l2 S xs ys (i + 1) h' → h'.objs.size = s.heap.objs.size + 1 → (∀ c o, c ≠ z → c ≠ TO → c ≠ i1 → c ≠ i2 → s.heap.get? c = some o → h'.get? c = some o) → Q (some (.ref s.heap.objs.size)) { s with heap := h' }) :
    wpAny (model prog w) A (pyNext (.ref z)) Q E s := by
  obtain ⟨hTI, h1, h2, hl1, hl2, ⟨oO, hO⟩, hz⟩ := st
  have lt : ∀ {c o}, s.heap.get? c = some o → s.heap.objs.size ≠ c := fun e => Nat.ne_of_gt (Heap.lt_size e)
  have n1 : s.heap.objs.size ≠ i1 := let ⟨_, e, _⟩ := h1; lt e
  have n2 : s.heap.objs.size ≠ i2 := let ⟨_, e, _⟩ := h2; lt e
  rcases hz with ⟨hz, a, b, hTO⟩ | ⟨T, f, oT, hz, hT, r1, r2, r3, r4⟩
  · refine wpAny_pyNext_zip_item D hz hTI hTO h1 h2 hl1 hl2 hx hy fun h' a1 a2 a3 a4 a5 a6 hk => ?_
    exact hQ h' a5 ⟨hk _ _ D.TIz D.TITO D.TIi1 D.TIi2 hTI, a3, a4, hl1.at fun o e => hk _ o D.l1z D.l1TO D.l1i1 D.l1i2 e, hl2.at fun o e => hk _ o D.l2z D.l2TO D.l2i1 D.l2i2 e, ⟨_, a2⟩,
      .inr ⟨s.heap.objs.size, false, _, a1, a5, lt hz, n1, n2, Nat.ne_of_gt hS⟩⟩ a6 hk
  · refine wpAny_pyNext_zip_item_held D hz hT hTI h1 h2 hl1 hl2 hx hy fun h' a1 a3 a4 a5 a6 hk => ?_
    exact hQ h' a5 ⟨hk _ _ D.TIz D.TIi1 D.TIi2 hTI, a3, a4, hl1.at fun o e => hk _ o D.l1z D.l1i1 D.l1i2 e, hl2.at fun o e => hk _ o D.l2z D.l2i1 D.l2i2 e, ⟨oO, hk _ _ D.TOz D.TOi1 D.TOi2 hO⟩,
      .inr ⟨T, true, oT, a1, hk _ _ r1 r2 r3 hT, r1, r2, r3, r4⟩⟩ a6 fun c o cz _ c1 c2 e => hk c o cz c1 c2 e
theorem zs_end {Q : Option Value → Shared → Prop} (hh : A.handled = none) (D : ZipApart z TI TO i1 i2 l1 l2) (st : ZS z TI TO i1 i2 l1 l2 S xs ys i s.heap) (hend : xs[i]? = none ∨ ys[i]? = none)
    (hQ : ∀ h', (∀ c o, c ≠ z → c ≠ TO → c ≠ i1 → c ≠ i2 → s.heap.get? c = some o → h'.get? c = some o) → Q none { s with heap := h' }) : wpAny (model prog w) A (pyNext (.ref z)) Q E s := by
  obtain ⟨hTI, h1, h2, hl1, hl2, ⟨oO, hO⟩, hz⟩ := st
  rcases hz with ⟨hz, a, b, hTO⟩ | ⟨T, f, oT, hz, hT, r1, r2, r3, r4⟩
  · exact wpAny_pyNext_zip_end hh D hz hTI hTO h1 h2 hl1 hl2 hend hQ
  · exact wpAny_pyNext_zip_end_held hh D hz hT hTI h1 h2 hl1 hl2 hend fun h' hk => hQ h' fun c o cz _ c1 c2 e => hk c o cz c1 c2 e
/-- the pairs so far: each stands, new, apart -/
def ZGot (z TO i1 i2 S : Addr) (xs ys : Array Value) (acc : Array Value) (i : Nat) (h : Heap) : Prop :=
  ∃ Ts : List Addr, acc = (Ts.map Value.ref).toArray ∧ Ts.length = i ∧ Ts.Nodup ∧ ∀ (j T : Nat), Ts[j]? = some T → S < T ∧ T ≠ z ∧ T ≠ TO ∧ T ≠ i1 ∧ T ≠ i2 ∧ ∃ x y, xs[j]? = some x ∧ ys[j]? = some y ∧ IsPair h T x y
theorem ZGot.keep {acc : Array Value} (g : ZGot z TO i1 i2 S xs ys acc i h) (hk : ∀ c o, c ≠ z → c ≠ TO → c ≠ i1 → c ≠ i2 → c ≠ S → h.get? c = some o → h'.get? c = some o) : ZGot z TO i1 i2 S xs ys acc i h' := by
  obtain ⟨Ts, e, l, nd, p⟩ := g
  refine ⟨Ts, e, l, nd, fun j T hj => ?_⟩
  obtain ⟨a1, a2, a3, a4, a5, x, y, hx, hy, hp⟩ := p j T hj
  exact ⟨a1, a2, a3, a4, a5, x, y, hx, hy, hk _ _ a2 a3 a4 a5 (Nat.ne_of_gt a1) hp⟩
theorem zl_loop {R : Result → Shared → Prop} (hh : A.handled = none) (D : ZipApart z TI TO i1 i2 l1 l2) (O : ZOff z TI TO i1 i2 l1 l2 S) (hn : min xs.size ys.size = n) (hL : n ≤ sizeLine) (res : Value) :
    ∀ (k i : Nat) (s : Shared) (acc : Array Value) (c : Nat), n - i = k → i ≤ n → ZS z TI TO i1 i2 l1 l2 S xs ys i s.heap → s.heap.get? S = some { cls := .type "list", dict := none, data := .seq acc c, slots := #[] } → ZGot z TO i1 i2 S xs ys acc i s.heap →
    (∀ h' acc' c', (∀ b o, b ≠ z → b ≠ TO → b ≠ i1 → b ≠ i2 → b ≠ S → s.heap.get? b = some o → h'.get? b = some o) → h'.get? S = some { cls := .type "list", dict := none, data := .seq acc' c', slots := #[] } → ZGot z TO i1 i2 S xs ys acc' n h' → R (.ok (.ret res)) { s with heap := h' }) →
    codeAny (model prog w) A (.builtin "list.extend.loop" ⟨[.ref S, .ref z, res], []⟩) R s := by
  intro k
  induction k with
  | zero =>
    intro i s acc c hk hi hst hS hg hR
    have hin : i = n := by omega
    subst hin
    refine codeAny_builtin F.entry_extend_loop ?_
    rw [Around.under_plainId F.plain_extend_loop _]
    show wpAny _ A.in1 (pyNext (.ref z) >>= _) _ _ s
    have hend : xs[i]? = none ∨ ys[i]? = none := by
      rcases Nat.le_total xs.size ys.size with h | h
      · exact .inl (Array.getElem?_eq_none (by rw [← hn, Nat.min_eq_left h]; exact Nat.le_refl _))
      · exact .inr (Array.getElem?_eq_none (by rw [← hn, Nat.min_eq_right h]; exact Nat.le_refl _))
    refine wpAny_bind (zs_end (A := A.in1) hh D hst hend fun h' hk' => ?_)
    exact wpAny_pure (hR h' acc c (fun b o bz bT b1 b2 _ e => hk' b o bz bT b1 b2 e) (hk' S _ (Ne.symm O.z) (Ne.symm O.to) (Ne.symm O.i1) (Ne.symm O.i2) hS) (hg.keep fun c o cz cT c1 c2 _ e => hk' c o cz cT c1 c2 e))
  | succ k ih =>
    intro i s acc c hk hi hst hS hg hR
    have hlt : i < n := by omega
    have hix : i < xs.size := by omega
    have hiy : i < ys.size := by omega
    have ex := Array.getElem?_eq_getElem hix
    have ey := Array.getElem?_eq_getElem hiy
    have hSl : S < s.heap.objs.size := Heap.lt_size hS
    refine codeAny_builtin F.entry_extend_loop ?_
    rw [Around.under_plainId F.plain_extend_loop _]
    show wpAny _ A.in1 (pyNext (.ref z) >>= _) _ _ s
    refine wpAny_bind (zs_item (A := A.in1) D hst ex ey hSl fun h' hT st' hsz hk' => ?_)
    have hS' := hk' S _ (Ne.symm O.z) (Ne.symm O.to) (Ne.symm O.i1) (Ne.symm O.i2) hS
    have zlt : z < s.heap.objs.size := by
      rcases hst.st with ⟨hz, _⟩ | ⟨_, _, _, hz, _⟩
      · exact Heap.lt_size hz
      · exact Heap.lt_size hz
    obtain ⟨Ts, eacc, lTs, nd, pT⟩ := hg
    show wpAny _ A.in1 (updateSeq S (·.push (.ref s.heap.objs.size)) >>= _) _ _ _
    refine wpAny_bind ?_
    have oth : ∀ (b : Addr) (o : Obj), b ≠ S → h'.get? b = some o → (h'.update S (Obj.mapSeq (·.push (Value.ref s.heap.objs.size)))).get? b = some o := fun b o hb e => (Heap.get?_update_other _ _ (Ne.symm hb)).trans e
    have sacc : acc.size = i := by rw [eacc, List.size_toArray, List.length_map, lTs]
    refine wpAny_updateSeq hS' rfl (wpAny_pure ⟨plainId_quiet F.plain_extend_loop _, ih (i + 1) _ (acc.push (.ref s.heap.objs.size)) _ (by omega) hlt (st'.frame O fun b o hb e => oth b o hb e) (Heap.get?_update_self _ hS' rfl) ?_ fun h'' acc' c' hk'' hS'' hg'' => ?_⟩)
      (by rw [sacc]; omega) (by show (acc.push (Value.ref s.heap.objs.size)).size ≤ sizeLine + 1; rw [Array.size_push, sacc]; omega)
    · refine ⟨Ts ++ [s.heap.objs.size], by rw [eacc, List.map_append, List.push_toArray] <;> rfl, by rw [List.length_append, lTs] <;> rfl, ?_, fun j T hj => ?_⟩
      · rw [List.nodup_append]
        refine ⟨nd, by simp, fun a ha b hb => ?_⟩
        rw [List.mem_singleton.mp hb]
        obtain ⟨j, hj, e⟩ := List.mem_iff_getElem.mp ha
        obtain ⟨_, _, _, _, _, x, y, _, _, hp⟩ := pT j a (by rw [List.getElem?_eq_getElem hj, e])
        exact Nat.ne_of_lt (Heap.lt_size hp)
      · by_cases q : j < Ts.length
        · rw [List.getElem?_append_left q] at hj
          obtain ⟨a1, a2, a3, a4, a5, x, y, hx, hy, hp⟩ := pT j T hj
          exact ⟨a1, a2, a3, a4, a5, x, y, hx, hy, oth _ _ (Nat.ne_of_gt a1) (hk' _ _ a2 a3 a4 a5 hp)⟩
        · rw [List.getElem?_append_right (by omega)] at hj
          have ej : j - Ts.length = 0 := by
            cases e : j - Ts.length with
            | zero => rfl
            | succ m => rw [e] at hj; cases hj
          rw [ej] at hj
          have eT : s.heap.objs.size = T := Option.some.inj hj
          subst eT
          have e2 : j = i := by omega
          subst e2
          have lt : ∀ {c o}, s.heap.get? c = some o → s.heap.objs.size ≠ c := fun e => Nat.ne_of_gt (Heap.lt_size e)
          refine ⟨hSl, Nat.ne_of_gt zlt, ?_, ?_, ?_, _, _, ex, ey, oth _ _ (Nat.ne_of_gt hSl) hT⟩
          · obtain ⟨_, e⟩ := hst.to; exact lt e
          · obtain ⟨_, e, _⟩ := hst.h1; exact lt e
          · obtain ⟨_, e, _⟩ := hst.h2; exact lt e
    · refine hR h'' acc' c' (fun b o bz bT b1 b2 bS e => hk'' b o bz bT b1 b2 bS (oth b o bS (hk' b o bz bT b1 b2 e))) hS'' hg''
theorem zl_extend {R : Result → Shared → Prop} (hh : A.handled = none) (D : ZipApart z TI TO i1 i2 l1 l2) (O : ZOff z TI TO i1 i2 l1 l2 S) (hn : min xs.size ys.size = n) (hL : n ≤ sizeLine) (res : Value) (c₀ : Nat) (st : ZS z TI TO i1 i2 l1 l2 S xs ys 0 s.heap) (hzt : s.TypeIs (.ref z) "zip") (hz0 : IsZip s.heap z TI TO .none) (hS : s.heap.get? S = some { cls := .type "list", data := .seq #[] c₀ })
    (hR : ∀ h' tk acc' c', (∀ b o, b ≠ z → b ≠ TO → b ≠ i1 → b ≠ i2 → b ≠ S → s.heap.get? b = some o → h'.get? b = some o) → h'.get? S = some { cls := .type "list", dict := none, data := .seq acc' c', slots := #[] } → ZGot z TO i1 i2 S xs ys acc' n h' → R (.ok (.ret res)) { s with heap := h', toks := tk }) :
    wpAny (model prog w) A.in1 (Builtin.List.listExtendWith (.ref S) (.ref z) res)
      (fun fin s' => match fin with | .done f => R (.ok f) s' | .again c' => c'.quiet = true ∧ codeAny (model prog w) A c' R s') (fun e s' => R (.error e) s') s := by
  unfold Builtin.List.listExtendWith
  refine wpAny_bind (wpAny_typeOf hzt ?_)
  have h1 : Builtin.List.listSameRef (.ref S) (.ref z) = false := by simp [Builtin.List.listSameRef, Ne.symm O.z]
  have h2 : (Value.type "zip" == Value.type "list") = false := by decide
  have h3 : (Value.type "zip" == Value.type "tuple") = false := by decide
  simp only [h1, h2, h3, Bool.or_false, Bool.false_eq_true, if_false]
  refine wpAny_bind (wpAny_pyIter_zip hz0 ?_)
  refine wpAny_bind (wpAny_holding ?_)
  unfold Builtin.List.listLengthHint
  refine wpAny_bind (wpAny_specialOf hzt nolen_zip ?_)
  show wpAny _ A.in1 (specialOf (Value.ref z) (Str.ofString "__length_hint__") >>= _) _ _ _
  refine wpAny_bind (wpAny_specialOf hzt nohint_zip ?_)
  refine wpAny_pure ?_
  show wpAny _ A.in1 (rule "list.extend.makes-room" >>= fun _ => Builtin.List.listTouch (.ref S) >>= fun _ =>
    again (.builtin "list.extend.loop" ⟨[.ref S, .ref z, res], []⟩)) _ _ _
  refine wpAny_bind (wpAny_rule ?_)
  refine wpAny_bind ?_
  show wpAny _ A.in1 (updateSeq S (·.push .none) >>= fun _ => updateSeq S (·.pop)) _ _ _
  refine wpAny_bind (wpAny_updateSeq hS rfl ?_)
  have hS₂ := Heap.get?_update_self (Obj.mapSeq (·.push Value.none)) hS rfl
  refine wpAny_updateSeq hS₂ rfl ?_
  have hS₃ := Heap.get?_update_self (Obj.mapSeq (·.pop)) hS₂ rfl
  have oth : ∀ b o, b ≠ S → s.heap.get? b = some o → ((s.heap.update S (Obj.mapSeq (·.push Value.none))).update S (Obj.mapSeq (·.pop))).get? b = some o :=
    fun b o hb e => (Heap.get?_update_other _ _ (Ne.symm hb)).trans ((Heap.get?_update_other _ _ (Ne.symm hb)).trans e)
  refine wpAny_pure ⟨plainId_quiet F.plain_extend_loop _, zl_loop hh D O hn hL res n 0 _ _ _ rfl (Nat.zero_le _) (st.frame O fun b o hb e => oth b o hb e) hS₃ ⟨[], rfl, rfl, List.nodup_nil, fun j T hj => nomatch hj⟩ fun h' acc' c' hk hS' hg => ?_⟩
  exact hR h' _ acc' c' (fun b o bz bT b1 b2 bS e => hk b o bz bT b1 b2 bS (oth b o bS e)) hS' hg
theorem zl_call {Q : Value → Shared → Prop} (hh : A.handled = none) (D : ZipApart z TI TO i1 i2 l1 l2) (hn : min xs.size ys.size = n) (hL : n ≤ sizeLine) (hz : IsZip s.heap z TI TO .none) (hTI : IsPair s.heap TI (.ref i1) (.ref i2)) (hTO : IsPair s.heap TO a b)
    (h1 : s.heap.IsListIter i1 l1 0) (h2 : s.heap.IsListIter i2 l2 0) (hl1 : s.heap.IsList l1 xs) (hl2 : s.heap.IsList l2 ys)
    (hQ : ∀ h' tk acc' c', (∀ b o, b ≠ z → b ≠ TO → b ≠ i1 → b ≠ i2 → s.heap.get? b = some o → h'.get? b = some o) → h'.get? s.heap.objs.size = some { cls := .type "list", dict := none, data := .seq acc' c', slots := #[] } → ZGot z TO i1 i2 s.heap.objs.size xs ys acc' n h' → Q (.ref s.heap.objs.size) { s with heap := h', toks := tk }) :
    wpAny (model prog w) A (call (.type "list") [.ref z]) Q E s := by
  refine callType_codes (Q₁ := fun obj s₁ => obj = .ref s.heap.objs.size ∧ s₁ = { s with heap := s.heap.push { cls := .type "list", data := .seq #[] } }) PySem.F.called_list (PySem.F.typeCall_list_1 _) PySem.F.entry_list_init
    (code_list_new _ ⟨rfl, rfl⟩) fun obj s₁ h₁ => ?_
  obtain ⟨rfl, rfl⟩ := h₁
  have lt : ∀ {c o}, s.heap.get? c = some o → c ≠ s.heap.objs.size := fun e => Nat.ne_of_lt (Heap.lt_size e)
  have O : ZOff z TI TO i1 i2 l1 l2 s.heap.objs.size := ⟨lt hz, lt hTI, lt hTO, let ⟨_, e, _⟩ := h1; lt e, let ⟨_, e, _⟩ := h2; lt e, let ⟨_, e, _⟩ := hl1; lt e, let ⟨_, e, _⟩ := hl2; lt e⟩
  have hS : (s.heap.push { cls := .type "list", data := .seq #[] }).get? s.heap.objs.size = some { cls := .type "list", data := .seq #[] } := Heap.get?_push_size _ rfl
  have hS₂ := Heap.get?_update_self (Obj.mapSeq (fun _ => (#[] : Array Value))) hS rfl
  have oth : ∀ b o, b ≠ s.heap.objs.size → s.heap.get? b = some o → ((s.heap.push { cls := .type "list", data := .seq #[] }).update s.heap.objs.size (Obj.mapSeq (fun _ => (#[] : Array Value)))).get? b = some o :=
    fun b o hb e => (Heap.get?_update_other _ _ (Ne.symm hb)).trans (Heap.get?_push_of_some _ e)
  have hz' := oth _ _ (lt hz) hz
  have st0 : ZS z TI TO i1 i2 l1 l2 s.heap.objs.size xs ys 0 ((s.heap.push { cls := .type "list", data := .seq #[] }).update s.heap.objs.size (Obj.mapSeq (fun _ => (#[] : Array Value)))) :=
    ⟨oth _ _ (lt hTI) hTI, h1.at fun o e => oth _ _ O.i1 e, h2.at fun o e => oth _ _ O.i2 e, hl1.at fun o e => oth _ _ O.l1 e, hl2.at fun o e => oth _ _ O.l2 e, ⟨_, oth _ _ (lt hTO) hTO⟩, .inl ⟨hz', a, b, oth _ _ (lt hTO) hTO⟩⟩
  refine ⟨⟨_, hS, rfl⟩, PySem.F.args_list_init_2 _ _, ?_⟩
  show wpAny _ _ (do let old ← Builtin.List.listItems (.ref s.heap.objs.size); Builtin.List.listUpdate (.ref s.heap.objs.size) (fun _ => #[]); letGo old.toList.reverse; Builtin.List.listExtendWith (.ref s.heap.objs.size) (.ref z) .none) _ _ _
  refine wpAny_bind ?_
  unfold Builtin.List.listItems
  refine wpAny_bind (wpAny_seqItems hS rfl (wpAny_pure ?_))
  show wpAny _ _ (updateSeq s.heap.objs.size (fun _ => #[]) >>= fun _ => letGo (#[] : Array Value).toList.reverse >>= fun _ => Builtin.List.listExtendWith (.ref s.heap.objs.size) (.ref z) .none) _ _ _
  refine wpAny_bind (wpAny_updateSeq hS rfl ?_)
  refine wpAny_bind (wpAny_letGo ?_)
  refine zl_extend (A := A.in1) hh D O hn hL .none _ st0 ⟨_, hz', rfl⟩ hz' hS₂ fun h' tk acc' c' hk hS' hg => ?_
  exact ⟨rfl, hQ h' tk acc' c' (fun b o bz bT b1 b2 e => hk b o bz bT b1 b2 (Nat.ne_of_lt (Heap.lt_size e)) (oth b o (Nat.ne_of_lt (Heap.lt_size e)) e)) hS' hg⟩
end
theorem un_more {fs ex : List Addr} {H H1 : Hp} {h h' : Heap} {a : Addr} {o : HO} (u : Un fs ex H H1 h h') (hp : h.get? a = none) (hn : H1 a = none) : Un fs ex H (upd H1 a o) h h' where
  keep := u.keep
  slot := u.slot
  free := fun b q e n x => by rw [upd_ne (fun z => by rw [z, hp] at e; cases e)]; exact u.free b q e n x
  there := u.there
  tups := fun b xs q => by rw [upd_ne (ne_of_none (u.tups b xs q) hn)]; exact u.tups b xs q
  frzs := fun b o q z => by rw [upd_ne (ne_of_none (u.frzs b o q z) hn)]; exact u.frzs b o q z
  tbls := fun b ps q => by
    obtain ⟨more, z⟩ := u.tbls b ps q
    exact ⟨more, by rw [upd_ne (ne_of_none z hn)]; exact z⟩
theorem hok_more {P : Program} {w : World} {H : Hp} {h : Heap} {a : Addr} {o : HO} (x : HOk P w H h) (hn : H a = none) (new : ObjOk P w (upd H a o) h a o) : HOk P w (upd H a o) h := fun b u e => by
  by_cases hb : b = a
  · subst hb
    rw [upd_same] at e
    cases e
    exact new
  · rw [upd_ne hb] at e
    exact (x b u e).stay (fun c v _ q => q) (fun c q => by rw [upd_ne (ne_of_none q hn)]; exact q) fun c xs q => by rw [upd_ne (ne_of_none q hn)]; exact q
theorem pairs_laid {P : Program} {w : World} {K : PySem.W.Frag} {fs ex : List Addr} {R H : Hp} {h h' : Heap} (N : Nat) (hN : ∀ a, N ≤ a → h.get? a = none) :
    ∀ (Ts : List Addr) (ps : List (V × V)) (es : List (PyData × PyData)) (R1 H1 : Hp), Un fs ex H H1 h h' → HOk P w H1 h' → Grow R H R1 H1 → Ts.length = ps.length → ps.length = es.length → Ts.Nodup → (∀ T ∈ Ts, H1 T = none) →
    (∀ (j T : Nat) (p : V × V), Ts[j]? = some T → ps[j]? = some p → N ≤ T ∧ ∃ u v, RelV p.1 u ∧ RelV p.2 v ∧ IsPair h' T u v) → (∀ (j : Nat) (p : V × V) (e : PyData × PyData), ps[j]? = some p → es[j]? = some e → Dv K R1 p.1 e.1 ∧ Dv K R1 p.2 e.2) →
    ∃ R2 H2, Un fs ex H H2 h h' ∧ HOk P w H2 h' ∧ Grow R H R2 H2 ∧ Same R1 R2 ∧ DvAll K R2 (Ts.map V.ref) (es.map fun e => PyData.tuple [e.1, e.2]) ∧ ∀ a, a ∉ Ts → H2 a = H1 a
  | [], ps, es, R1, H1, u, k, g, l1, l2, _, _, _, _ => by
    have e1 : ps = [] := List.length_eq_zero_iff.mp l1.symm
    subst e1
    have e2 : es = [] := List.length_eq_zero_iff.mp l2.symm
    subst e2
    exact ⟨R1, H1, u, k, g, Same.refl _, .nil, fun _ _ => rfl⟩
  | T :: Ts, [], _, _, _, _, _, _, l1, _, _, _, _, _ => nomatch l1
  | T :: Ts, p :: ps, [], _, _, _, _, _, _, l2, _, _, _, _ => nomatch l2
  | T :: Ts, p :: ps, e :: es, R1, H1, u, k, g, l1, l2, nd, fr, hp, hd => by
    obtain ⟨nT, nd'⟩ := List.nodup_cons.mp nd
    have hT : H1 T = none := fr T List.mem_cons_self
    obtain ⟨hNT, x, y, rx, ry, hx⟩ := hp 0 T p rfl rfl
    obtain ⟨d1, d2⟩ := hd 0 p e rfl rfl
    have new : ObjOk P w (upd H1 T (.tup [p.1, p.2])) h' T (.tup [p.1, p.2]) := ⟨by show 2 ≤ sizeLine; decide, [x, y], .cons rx (.cons ry .nil), ⟨_, hx, rfl, _, rfl⟩⟩
    have k2 : HOk P w (upd H1 T (.tup [p.1, p.2])) h' := hok_more k hT new
    have ga : Grow R1 H1 (upd R1 T (.tup [p.1, p.2])) (upd H1 T (.tup [p.1, p.2])) := Grow.add g.inn hT
    obtain ⟨R2, H2, u3, k3, g3, s3, dv, off⟩ := pairs_laid (P := P) (w := w) (K := K) N hN Ts ps es (upd R1 T (.tup [p.1, p.2])) (upd H1 T (.tup [p.1, p.2])) (un_more u (hN T hNT) hT) k2 (g.trans ga) (by simpa using l1) (by simpa using l2) nd'
      (fun T' hT' => by
        have ne : T' ≠ T := fun z => nT (z ▸ hT')
        rw [upd_ne ne]
        exact fr T' (List.mem_cons_of_mem _ hT'))
      (fun j T' q hj hq => hp (j + 1) T' q (by simpa using hj) (by simpa using hq))
      (fun j q e' hq he' => by
        obtain ⟨a1, a2⟩ := hd (j + 1) q e' (by simpa using hq) (by simpa using he')
        exact ⟨Dv_mono ga.sub a1, Dv_mono ga.sub a2⟩)
    exact ⟨R2, H2, u3, k3, g3, ga.sub.trans s3, .cons (.tup (SqT.of (s3 _ _ upd_same)) (.cons (Dv_mono (ga.sub.trans s3) d1) (.cons (Dv_mono (ga.sub.trans s3) d2) .nil))) dv, fun a ha => by
      rw [off a (fun z => ha (List.mem_cons_of_mem _ z)), upd_ne (fun z => ha (by rw [z]; exact List.mem_cons_self))]⟩
theorem ne_ge {a n : Nat} (h : a < n) (k : Nat) : a ≠ n + k := by omega
theorem vals_at {xs : List V} {us : List Value} (h : Vals xs us) {j : Nat} {x : V} {u : Value} (hx : xs[j]? = some x) (hu : us[j]? = some u) : RelV x u := by
  obtain ⟨u', e, r⟩ := h.get hx
  rw [hu] at e
  cases e
  exact r
section
variable {X : Cx} {e1 e2 : Expr} {σ : L2.St} {R : Hp} {ds es : List PyData} {p p2 pos pos2 : Pos}
theorem pd_listZip (hc : X.calm = true) (B : Blt X.mg) (h1 : PD X e1 σ R (.list ds)) (h2 : PD X e2 σ R (.list es)) (hl : ds.length ≤ 1000) (hg : Gl X "list" := by rfl) (hgz : Gl X "zip" := by rfl)
    (he : starEach [.Call (.Name "zip" p2) [e1, e2] [] pos2] X.env = (false, eval (.Call (.Name "zip" p2) [e1, e2] [] pos2) X.env) :: starEach [] X.env := by rfl)
    (he1 : starEach [e1, e2] X.env = (false, eval e1 X.env) :: starEach [e2] X.env := by rfl) (he2 : starEach [e2] X.env = (false, eval e2 X.env) :: starEach [] X.env := by rfl) (hpl : (backTo pos2 (starEach [e2] X.env)).any (·.1) = false := by rfl) :
    PD X (.Call (.Name "list" p) [.Call (.Name "zip" p2) [e1, e2] [] pos2] [] pos) σ R (.list (zipD ds es)) := by
  refine ⟨fun pins s H Q I sb k => ?_⟩
  refine Call_ (ld_blt I hg B.list boot_list (PyProof.Rows.callWith_type1 (args_cons (Call_ (ld_blt I hgz B.zip PyProof.Rows.boot_zip (PyProof.Rows.callWith_type1 (thn ((pds_cons h1 (pds_cons h2 pds_nil he2) he1).run pos2 pins s H (fun vs H' => ∃ R', Grow R H R' H' ∧ DvAll X.K R' vs [.list ds, .list es]) I sb fun vs H' R' g dv => ⟨R', g, dv⟩) fun us s1 ⟨vs, H1, I1, r1, R1, g, dv⟩ => ?_) he1 hpl))) he) he))
  obtain ⟨v, w, rfl, dv, dw⟩ := DvAll.two' dv
  obtain ⟨a, xs, rfl, ha, hx⟩ := dv.lstE
  obtain ⟨b, ys, rfl, hb, hy⟩ := dw.lstE
  cases r1 with
  | cons r rr =>
    cases rr with
    | cons r' rr =>
      cases rr
      cases r
      cases r'
      obtain ⟨its, rv, q1, _⟩ := I1.list (SqL.of (g.inn _ _ ha))
      obtain ⟨its2, rv2, q2, _⟩ := I1.list (SqL.of (g.inn _ _ hb))
      have p1 : s1.heap.IsList a its.toArray := q1.isList
      have p2' : s1.heap.IsList b its2.toArray := q2.isList
      refine call_zip_2 p1 p2' fun h' hz hTI hTO hi1 hi2 hsz hk => args_nil ?_
      have la : a < s1.heap.objs.size := let ⟨_, e, _⟩ := p1; Heap.lt_size e
      have lb : b < s1.heap.objs.size := let ⟨_, e, _⟩ := p2'; Heap.lt_size e
      have L1 : its.toArray.size = ds.length := by rw [List.size_toArray, ← rv.length, DvAll.len hx]
      have L2 : its2.toArray.size = es.length := by rw [List.size_toArray, ← rv2.length, DvAll.len hy]
      refine zl_call (s := { s1 with heap := h' }) (n := min ds.length es.length) (I.ok.hd hc) (PySem.W.ktu_apart s1.heap.objs.size a b la lb) (by rw [L1, L2]) (Nat.le_trans (Nat.le_trans (Nat.min_le_left _ _) hl) (by decide)) hz hTI hTO hi1 hi2 (p1.at fun o e => hk _ o e) (p2'.at fun o e => hk _ o e) fun h'' tk acc c hk2 hS hg => ?_
      obtain ⟨Ts, rfl, lT, nd, hT⟩ := hg
      have kall : ∀ b o, s1.heap.get? b = some o → h''.get? b = some o := fun b o e => by
        have lt := Heap.lt_size e
        exact hk2 b o (ne_ge lt 4) (ne_ge lt 3) (Nat.ne_of_lt lt) (ne_ge lt 1) (hk b o e)
      have nfree : ∀ c, s1.heap.objs.size ≤ c → s1.heap.get? c = none := fun c hc => by
        cases e : s1.heap.get? c with
        | none => rfl
        | some o => exact absurd (Heap.lt_size e) (Nat.not_lt.mpr hc)
      have lz : (List.zip xs ys).length = min ds.length es.length := by rw [List.length_zip, DvAll.len hx, DvAll.len hy]
      have hTS : ∀ T ∈ Ts, s1.heap.objs.size + 5 < T := fun T hm => by
        obtain ⟨j, hj, e⟩ := List.mem_iff_getElem.mp hm
        have q := (hT j T (by rw [List.getElem?_eq_getElem hj, e])).1
        have hsz' : h'.objs.size = s1.heap.objs.size + 5 := hsz
        have q' : h'.objs.size < T := q
        omega
      obtain ⟨R2, H2, u2, k2, g2, s2, dvs, off⟩ := pairs_laid (P := X.prog) (w := X.w) (K := X.K) (fs := X.fs) (ex := []) (R := R1) (H := H1) (h := s1.heap) (h' := h'') s1.heap.objs.size nfree Ts (List.zip xs ys) (List.zip ds es) R1 H1 (Un.kept kall) (I1.hok.kept kall) (Grow.refl g.inn)
        (by rw [lT, lz]) (by rw [lz, List.length_zip]) nd (fun T hm => I1.hok.fresh (by have := hTS T hm; omega))
        (fun j T q hj hq => by
          obtain ⟨b0, _, _, _, _, x, y, ex, ey, hp⟩ := hT j T hj
          have hz2 := List.getElem?_zip_eq_some.mp hq
          refine ⟨by have := hTS T (List.mem_of_getElem? hj); omega, x, y, vals_at rv hz2.1 (by simpa using ex), vals_at rv2 hz2.2 (by simpa using ey), hp⟩)
        (fun j q e hq he => by
          have hz2 := List.getElem?_zip_eq_some.mp hq
          have hz3 := List.getElem?_zip_eq_some.mp he
          obtain ⟨d, e1, d1⟩ := DvAll.at hx hz2.1
          obtain ⟨d', e2, d2⟩ := DvAll.at hy hz2.2
          rw [hz3.1] at e1
          rw [hz3.2] at e2
          cases e1
          cases e2
          exact ⟨d1, d2⟩)
      have hSn : H2 h'.objs.size = none := by
        rw [off _ (fun hm => by
          have q := hTS _ hm
          have hsz' : h'.objs.size = s1.heap.objs.size + 5 := hsz
          omega)]
        exact I1.hok.fresh (by have hsz' : h'.objs.size = s1.heap.objs.size + 5 := hsz; omega)
      have vT : ∀ Ts : List Addr, Vals (Ts.map V.ref) (Ts.map Value.ref) := by
        intro Ts
        induction Ts with
        | nil => exact .nil
        | cons T Ts ih => exact .cons rfl ih
      have hlen : (Ts.map V.ref).length ≤ sizeLine := by rw [List.length_map, lT]; exact Nat.le_trans (Nat.le_trans (Nat.min_le_left _ _) hl) (by decide)
      have u3 : Un X.fs [] H1 (upd H2 h'.objs.size (.lst (Ts.map V.ref))) s1.heap h'' := un_more u2 (nfree _ (by have hsz' : h'.objs.size = s1.heap.objs.size + 5 := hsz; omega)) hSn
      have k3 : HOk X.prog X.w (upd H2 h'.objs.size (.lst (Ts.map V.ref))) h'' := hok_more k2 hSn ⟨hlen, _, c, vT Ts, hS⟩
      have I3 := I1.un (t' := tk) u3 k3
      have g3 : Grow R2 H2 (upd R2 h'.objs.size (.lst (Ts.map V.ref))) (upd H2 h'.objs.size (.lst (Ts.map V.ref))) := Grow.add g2.inn hSn
      have ez : zipD ds es = (List.zip ds es).map fun e => PyData.tuple [e.1, e.2] := by
        unfold zipD
        rw [List.zip_eq_zipWith, List.map_zipWith]
      exact ⟨.ref h'.objs.size, _, I3, rfl, k _ _ _ ((g.trans g2).trans g3) (.lst upd_same (by rw [ez]; exact DvAll_mono g3.sub dvs))⟩
end
end NF

set_option Elab.async false
set_option linter.all false
set_option maxRecDepth 100000
set_option maxHeartbeats 2000000
namespace NF
open PySem PySem.Spec PyProof.Rows L2

/-- a def of one parameter that may be given by its name -/
structure DfK (P : Program) (w : World) (K : PySem.W.Frag) (mg : Str → Option Value) (base : Heap) (k : Nat) (x y : Str) (sp : Sp) : Prop where
  ex : ∃ (f : Addr) (fd : FuncData), FnOk P w K mg base CX0 k f fd [y] sp ∧ mg x = some (.ref f) ∧ PySem.W.keepIn K (.ref f) = true ∧ KBinds K fd [y] [y] (fun us ws => us ++ ws) fun vs zs => vs ++ zs
theorem DfK.mono {P : Program} {w : World} {K : PySem.W.Frag} {mg : Str → Option Value} {base : Heap} {j k : Nat} {x y : Str} {sp : Sp} (F : DfK P w K mg base j x y sp) (h : j ≤ k) : DfK P w K mg base k x y sp := by
  obtain ⟨f, fd, a, b, c, d⟩ := F
  exact ⟨f, fd, a.mono h, b, c, d⟩
theorem kbinds_one {K : PySem.W.Frag} {fd : FuncData} {y : Str} (h1 : ∀ u, bindArgs fd ⟨[u], []⟩ = pure [(y, u)]) (h2 : ∀ u, bindArgs fd ⟨[], [(y, u)]⟩ = pure [(y, u)]) : KBinds K fd [y] [y] (fun us ws => us ++ ws) fun vs zs => vs ++ zs where
  to := fun s us ws _ hl => by
    match us, ws, hl with
    | [u], [], _ => exact .of_eq (h1 u)
    | [], [u], _ => exact .of_eq (h2 u)
    | [], [], hl => cases hl
    | [], _ :: _ :: _, hl => simp at hl
    | [_], _ :: _, hl => simp at hl
    | _ :: _ :: _, _, hl => simp at hl
  rel := fun r1 r2 => r1.append r2
section
variable {P : Program} {w : World} {K : PySem.W.Frag} {mg : Str → Option Value} {base : Heap}
theorem df_mkK {x y : Str} {st : Stmt} {N : List Str} {k : Nat} {pre : List PyData → PyData → Prop} (F : At K mg x st [y]) (S : FnScope N [y] (defScope st))
    (kb : ∀ (kV doc pm : Value) (an : Option Addr) (cdv ct u : Value), bindArgs (PySem.W.fnOf x x (defArgs st) (defBody st) (defScope st) .none kV doc pm an cdv ct) ⟨[u], []⟩ = pure [(y, u)] ∧ bindArgs (PySem.W.fnOf x x (defArgs st) (defBody st) (defScope st) .none kV doc pm an cdv ct) ⟨[], [(y, u)]⟩ = pure [(y, u)])
    (len : ∀ ds d, pre ds d → ds.length = 1)
    (body : ∀ (f : Addr) (cdv : Value) (A : Around) (outer : List Env) (s : Shared) (H : Hp) (E : XK) (vs : List V) (R : Hp) (ds : List PyData) (d : PyData), Room k (A.deeper (envOfC x (defScope st) s.heap.objs.size f cdv)) → DvAll K R vs ds → pre ds d →
      BD (dcx P w K mg base N x (defScope st) f cdv A outer s H E) (defBody st) (start N vs) R d) : DfK P w K mg base (k + 1) x y (spD K pre) := by
  obtain ⟨f, fd, Fn, hm, hb⟩ := F
  refine ⟨f, fd, Fn.ok S (fun vs H Q E h => ?_) (fun cdv A outer s H vs Q E hr h => ?_), hm, Fn.kp, ?_⟩
  · obtain ⟨R, ds, d, sb, dv, hp, _⟩ := h
    rw [DvAll.len dv, len _ _ hp]
    rfl
  · obtain ⟨R, ds, d, sb, dv, hp, k⟩ := h
    exact ⟨_, pss_bd, R, d, sb, body f cdv A outer s H E vs R ds d hr dv hp, k⟩
  · obtain ⟨oc, od, kV, doc, pm, an, cdv, ct, osl, rfl, _, _⟩ := Fn.ex
    exact kbinds_one (fun u => (kb kV doc pm an cdv ct u).1) fun u => (kb kV doc pm an cdv ct u).2
end
section
variable {X : Cx} {t : Option Addr} {n : Nat} {body rest : List Stmt} {e a b k : Expr} {es : List Expr} {σ : L2.St} {R0 P R : Hp} {N : Nat → L2.St → Hp → Prop} {T : Nat → PyData → Prop} {W : Nat → PyData → Prop} {Wl : Nat → List PyData → Prop} {d : PyData} {ds ds2 : List PyData} {pos pos' p : Pos}
/-- f(y = e) -/
theorem pd_callKW {lv : Nat} {x y : Str} {kp : Pos} {pre : List PyData → PyData → Prop} {f : PyData} (F : DfK X.prog X.w X.K X.mg X.base lv x y (spD X.K pre)) (hr : Room lv X.A) (ha : PD X e σ R d) (hp : pre [d] f) (hg : Gl X x := by rfl) (hdb : (x == ("__debug__" : Str)) = false := by decide)
    (hall : (backToKw pos (keywordEach [⟨some y, e, kp⟩] X.env)).all (·.1.isSome) = true := by rfl) (hks : (backToKw pos (keywordEach [⟨some y, e, kp⟩] X.env)).filterMap (·.1) = [y] := by rfl)
    (hpl : ((backTo pos (starEach [] X.env)).any (·.1) || (backToKw pos (keywordEach [⟨some y, e, kp⟩] X.env)).any (·.1.isNone)) = false := by rfl) : PD X (.Call (.Name x p) [] [⟨some y, e, kp⟩] pos) σ R f := by
  obtain ⟨fa, fd, a, b, c, g⟩ := F
  refine ⟨fun pins s H Q I sb q => ?_⟩
  refine wpAny_Call_Name_kw (ld_glob I hg b ?_ hdb)
  refine PySem.W.callWith_KW0 (h₀ := X.base) I.ok.mod.kin c hall (thn ((pk_cons pe_pd pk_nil).run pos pins s σ H (fun zs H' => ∃ v R', zs = [v] ∧ Grow R H R' H' ∧ Dv X.K R' v d) I ⟨R, d, sb, ha, fun v H' R' g dv => ⟨v, R', rfl, g, dv⟩⟩) fun ws s2 ⟨zs, H2, I2, rz, v, R2, ez, g2, dv⟩ => ⟨I2.kIn, ?_⟩) hpl
  rw [hks]
  subst ez
  refine run_fnk (us := []) (vs := []) a hr g pass0 I2 .nil rz ?_
  exact ⟨R2, [d], f, g2.inn, .cons dv .nil, hp, fun v' H' R' g' dv' => q v' H' R' (g2.trans g') dv'⟩
/-- x, y = a, b: plain local names -/
theorem sw_par (i j : Nat) {x y : Str} {px py pt : Pos} {kt k2 : Nat} {pt2 : Pos} (hc : X.calm = true) (nd : X.N.Nodup) (hij : i ≠ j) (ha : EWs X t n [a, b] σ R Wl)
    (q : ∀ v w R1 m ds, Same R R1 → DvAll X.K R1 [v, w] ds → Wl m ds → SW X t m rest ((σ.set i (some v)).set j (some w)) R0 P R1 N T) (hl : ∀ m ds, Wl m ds → ds.length = 2)
    (hw : swappedStores [.Tuple [.Name x px, .Name y py] kt pt] (.Tuple [a, b] k2 pt2) X.env = pure (some [x, y])) (hi : X.N[i]? = some x := by rfl) (hj : X.N[j]? = some y := by rfl)
    (hx : X.env.scope.names.lookup x = some .local := by rfl) (hy : X.env.scope.names.lookup y = some .local := by rfl)
    (hs : swapsWithSole [.Tuple [.Name x px, .Name y py] kt pt] (.Tuple [a, b] k2 pt2) pos.line X.env = pure false := by rfl) :
    SW X t n (.Assign [.Tuple [.Name x px, .Name y py] kt pt] (.Tuple [a, b] k2 pt2) pos :: rest) σ R0 P R N T :=
  .of (pss_cons (ps_par hc nd hi hj hij hx hy pa_ew hw hs) pss_sw) fun H0 H D bx g sp kn kt => ⟨t, n, R, Wl, bx, g.inn, ha, fun vs H' R' m ds b' g' dvs w => by
    have l := DvAll.len dvs
    rw [hl m ds w] at l
    match vs, l with
    | [v, u], _ => exact ⟨v, u, rfl, t, m, R0, P, R', H0, N, T, b', g.trans g', sp.trans g'.sub, q v u R' m ds g'.sub dvs w, kn, kt⟩⟩
/-- x, y = e: any names, e a pair -/
theorem sw_two (i j : Nat) {x y : Str} {px py pt : Pos} {kt : Nat} (hc : X.calm = true) (nd : X.N.Nodup) (he : EW X t n e σ R W)
    (hp : ∀ m d, W m d → ∃ d1 d2, d = .tuple [d1, d2])
    (q : ∀ v w R1 m d1 d2, Same R R1 → Dv X.K R1 v d1 → Dv X.K R1 w d2 → W m (.tuple [d1, d2]) → SW X t m rest ((σ.set i (some v)).set j (some w)) R0 P R1 N T)
    (hw : swappedStores [.Tuple [.Name x px, .Name y py] kt pt] e X.env = pure none) (hi : X.N[i]? = some x := by rfl) (hj : X.N[j]? = some y := by rfl)
    (hx : Loc X.env.scope x := by first | exact Or.inl rfl | exact Or.inr rfl) (hy : Loc X.env.scope y := by first | exact Or.inl rfl | exact Or.inr rfl)
    (hf : X.fn x = true ∨ X.env.scope.names.lookup x = some .local := by first | exact .inl rfl | exact .inr rfl) (hf2 : X.fn y = true ∨ X.env.scope.names.lookup y = some .local := by first | exact .inl rfl | exact .inr rfl)
    (hs : swapsWithSole [.Tuple [.Name x px, .Name y py] kt pt] e pos.line X.env = pure false := by rfl) (h1 : (assignEach [.Tuple [.Name x px, .Name y py] kt pt] X.env).map (·.2) = [assign (.Tuple [.Name x px, .Name y py] kt pt) X.env] := by rfl)
    (ha2 : (assignEach [.Name x px, .Name y py] X.env).map (·.2) = assign (.Name x px) X.env :: (assignEach [.Name y py] X.env).map (·.2) := by rfl) (ha1 : (assignEach [.Name y py] X.env).map (·.2) = assign (.Name y py) X.env :: (assignEach [] X.env).map (·.2) := by rfl)
    (hn : (assignEach [.Name x px, .Name y py] X.env).length = 2 := by rfl) (hst : (assignEach [.Name x px, .Name y py] X.env).findIdx? (·.1) = none := by rfl) :
    SW X t n (.Assign [.Tuple [.Name x px, .Name y py] kt pt] e pos :: rest) σ R0 P R N T :=
  .of (pss_cons (ps_asg pe_ew (pg_tup hc (pgs_cons (pg_name nd hi hx hf) (pgs_cons (pg_name nd hj hy hf2) pgs_nil ha1) ha2) hn hst) hs hw h1) pss_sw) fun H0 H D bx g sp kn kt => ⟨t, n, R, W, bx, g.inn, he, fun v H' R' m d b' g' dv w => by
    obtain ⟨d1, d2, rfl⟩ := hp m d w
    exact g_two (g'.inn.trans (hid_le t H')) dv fun v1 v2 h1 h2 => ⟨t, m, R0, P, R', H0, N, T, b', g.trans g', sp.trans g'.sub, q v1 v2 R' m d1 d2 g'.sub h1 h2 w, kn, kt⟩⟩
theorem SqT.overX {K : PySem.W.Frag} {H : Hp} {l a : Addr} {φ : Heap → Prop} {o : HO} {xs : List V} (h : SqT K H a xs) (hl : H l = some (.ext φ)) : SqT K (upd H l o) a xs := by
  rcases h with (h | ⟨o', h⟩) | h
  · exact .inl (.inl (by rw [upd_ne (fun e => by rw [e, hl] at h; cases h)]; exact h))
  · exact .inl (.inr ⟨o', by rw [upd_ne (fun e => by rw [e, hl] at h; cases h)]; exact h⟩)
  · exact .inr h
mutual
theorem overXD {K : PySem.W.Frag} {R : Hp} {l : Addr} {φ : Heap → Prop} {o : HO} (hl : R l = some (.ext φ)) : ∀ (d : PyData) (v : V), Dv K R v d → Dv K (upd R l o) v d
  | .none, _, h => by cases h; exact .non
  | .bool _, _, h => by cases h; exact .bl _
  | .int _, _, h => by cases h; exact .int _
  | .str _, _, h => by cases h; exact .str _
  | .list ds, _, h => by
    cases h with
    | lst a b => exact .lst (by rw [upd_ne (fun e => by rw [e, hl] at a; cases a)]; exact a) (overXDs hl ds _ b)
  | .tuple ds, _, h => by
    cases h with
    | tup a b => exact .tup (SqT.overX a hl) (overXDs hl ds _ b)
  | .dict _, _, h => by cases h
theorem overXDs {K : PySem.W.Frag} {R : Hp} {l : Addr} {φ : Heap → Prop} {o : HO} (hl : R l = some (.ext φ)) : ∀ (ds : List PyData) (vs : List V), DvAll K R vs ds → DvAll K (upd R l o) vs ds
  | [], _, h => by cases h; exact .nil
  | d :: ds, _, h => by
    cases h with
    | cons a b => exact .cons (overXD hl d _ a) (overXDs hl ds _ b)
end
/-- the dict at l has these keys -/
def DK (X : Cx) (R : Hp) (l : Addr) (L : List PV) : Prop := R l = some (DictVO X.prog X.w l L) ∧ (∀ p ∈ L, SqT X.K R p.1 (p.2.map V.int))
theorem DK.mono {R1 : Hp} {l : Addr} {L : List PV} (h : DK X R l L) (s : Same R R1) : DK X R1 l L := ⟨s _ _ h.1, fun p hp => same_tup s (h.2 p hp)⟩
/-- x = {k: True} -/
theorem sw_dict1 (i : Nat) {x : Str} {v : Ver} {ep : Pos} {kj : Nat} {cp : Pos} (hu : X.A.units + 1 < cLine) (nd : X.N.Nodup) (hk : PD X k σ R (tupI v))
    (q : ∀ l q0 R1, Same R R1 → DK X R1 l [(q0, v)] → R0 l = none → P l = none → R l = none → SW X t n rest (σ.set i (some (.ref l))) R0 P R1 N T) (hi : X.N[i]? = some x := by rfl) (hx : Loc X.env.scope x := by first | exact Or.inl rfl | exact Or.inr rfl)
    (hs : swapsWith (.Dict [some k] [.Constant (.bool true) kj cp] ep) (some (.Name x pos')) pos.line X.env = pure false := by rfl) (hf : X.fn x = true ∨ X.env.scope.names.lookup x = some .local := by first | exact .inl rfl | exact .inr rfl) :
    SW X t n (.Assign [.Name x pos'] (.Dict [some k] [.Constant (.bool true) kj cp] ep) pos :: rest) σ R0 P R N T :=
  .of (pss_cons (ps_set nd hi hx (pe_disp1 hu pe_pd pe_bl) hs hf) pss_sw) fun H0 H D bx g sp kn kt l hl => by
    have sRH : Same R H := g.inn.trans (hid_le t H)
    have hR : R l = none := sRH.free hl
    have s1 : Same R (upd H l (DictVO X.prog X.w l [])) := sRH.trans (same_upd hl)
    refine ⟨R, tupI v, s1, hk, fun u H1 R1 g1 dv => ⟨rfl, ?_⟩⟩
    obtain ⟨q0, rfl, sq⟩ := Dv.tupI dv
    obtain ⟨r1, h1⟩ := g1.off hR upd_same
    -- the whole step from H
    have gg : Grow R H (upd R1 l (DictVO X.prog X.w l [(q0, v)])) (upd H1 l (DictVO X.prog X.w l [(q0, v)])) := by
      refine ⟨fun c o e => ?_, fun c o e => ?_, fun c o e => ?_, fun c o e => ?_⟩
      · rw [upd_ne (ne_of_none e hl)]
        exact g1.ext _ _ (by rw [upd_ne (ne_of_none e hl)]; exact e)
      · rw [upd_ne (ne_of_none e hR)]
        exact g1.sub _ _ e
      · by_cases hc : c = l
        · subst hc
          rw [upd_same] at e ⊢
          exact e
        · rw [upd_ne hc] at e ⊢
          exact g1.inn _ _ e
      · by_cases hc : c = l
        · subst hc
          exact .inr hl
        · rw [upd_ne hc] at e
          rcases g1.new _ _ e with z | z
          · exact .inl z
          · rw [upd_ne hc] at z
            exact .inr z
    obtain ⟨g2, b2⟩ := gg.box g.inn bx
    refine ⟨q0, v, rfl, same_tup g1.inn sq, h1, t, n, R0, P, _, H0, N, T, b2, g.trans g2, sp.trans g2.sub, q l q0 _ g2.sub ⟨upd_same, fun p hp => ?_⟩ (g.sub.free hR) (sp.free hR) hR, kn, kt⟩
    rw [List.mem_singleton.mp hp]
    exact same_tup (same_upd r1) sq
/-- x[e] = True -/
theorem sw_dput {i l : Nat} {x y : Str} {v : Ver} {px ps py : Pos} {kj : Nat} {cp : Pos} {j : Nat} {u : V} {L : List PV} (hu : X.A.units + 1 < cLine) (hσ : σ[i]? = some (some (.ref l))) (hd : DK X R l L) (h0 : R0 l = none) (hP : P l = none) (hz : L.length < sizeLine)
    (hσj : σ[j]? = some (some u)) (hdv : Dv X.K R u (tupI v))
    (q : ∀ R1 q0, (∀ w d, Dv X.K R w d → Dv X.K R1 w d) → DK X R1 l (addK L q0 v) → (∀ a, R a = none → R1 a = none) → SW X t n rest σ R0 P R1 N T)
    (hN : X.N[i]? = some x := by rfl) (hv : Vis X.env.scope x := by first | exact Or.inl rfl | exact Or.inr (Or.inl rfl) | exact Or.inr (Or.inr rfl)) (hdb : (x == ("__debug__" : Str)) = false := by decide) (hcd : (x == ("__classdict__" : Str)) = false := by decide)
    (hNy : X.N[j]? = some y := by rfl) (hvy : Vis X.env.scope y := by first | exact Or.inl rfl | exact Or.inr (Or.inl rfl) | exact Or.inr (Or.inr rfl)) (hdby : (y == ("__debug__" : Str)) = false := by decide) (hcdy : (y == ("__classdict__" : Str)) = false := by decide)
    (ha : ∀ v, assign (.Subscript (.Name x px) (.Name y py) ps) X.env v = (do
      let ov ← holding [v] (eval (.Name x px) X.env)
      let iv ← holding [v, ov] (eval (.Name y py) X.env)
      standAt ps
      holding [v, ov, iv] (setItem ov iv v)
      release [v, ov, iv] []) := by intro _; rfl)
    (hs : swapsWithSole [.Subscript (.Name x px) (.Name y py) ps] (.Constant (.bool true) kj cp) pos.line X.env = pure false := by rfl) (hw : swappedStores [.Subscript (.Name x px) (.Name y py) ps] (.Constant (.bool true) kj cp) X.env = pure none := by rfl)
    (h1 : (assignEach [.Subscript (.Name x px) (.Name y py) ps] X.env).map (·.2) = [assign (.Subscript (.Name x px) (.Name y py) ps) X.env] := by rfl) :
    SW X t n (.Assign [.Subscript (.Name x px) (.Name y py) ps] (.Constant (.bool true) kj cp) pos :: rest) σ R0 P R N T :=
  .of (pss_cons (ps_asg pe_bl (pg_sub (pe_var hN hv hdb hcd) (pe_var hNy hvy hdby hcdy) (set_dictV hu) ha) hs hw h1) pss_sw) fun H0 H D bx g sp kn kt => by
    obtain ⟨q0, rfl, sq⟩ := Dv.tupI hdv
    have sRH : Same R H := g.inn.trans (hid_le t H)
    obtain ⟨gp, nt⟩ := g.put (o' := DictVO X.prog X.w l (addK L q0 v)) h0 hd.1
    refine ⟨.ref l, hσ, .ref q0, hσj, l, L, q0, v, rfl, rfl, rfl, sRH _ _ hd.1, fun p hp => same_tup sRH (hd.2 p hp), same_tup sRH sq, hz, t, n, R0, P, _, H0, N, T, bx.put nt, gp, same_put sp hP, q _ q0 (fun w d h => overXD hd.1 d w h) ⟨upd_same, fun p hp => ?_⟩ (fun a ea => ?_), kn, kt⟩
    · rcases addK_mem hp with z | z
      · exact SqT.overX (hd.2 p z) hd.1
      · rw [z]; exact SqT.overX sq hd.1
    · by_cases na : a = l
      · rw [na, hd.1] at ea; cases ea
      · rw [upd_ne na]; exact ea
/-- sorted(x) -/
theorem pd_sortDict {i l : Nat} {x : Str} {px : Pos} {L : List PV} (hc : X.calm = true) (hu : X.A.units + 64 < cLine) (B : Blt X.mg) (hσ : σ[i]? = some (some (.ref l))) (hd : DK X R l L) (hne : ∀ p ∈ L, p.2 ≠ [])
    (hN : X.N[i]? = some x := by rfl) (hv : Vis X.env.scope x := by first | exact Or.inl rfl | exact Or.inr (Or.inl rfl) | exact Or.inr (Or.inr rfl)) (hdb : (x == ("__debug__" : Str)) = false := by decide) (hcd : (x == ("__classdict__" : Str)) = false := by decide)
    (hg : Gl X "sorted" := by rfl) (he : starEach [.Name x px] X.env = (false, eval (.Name x px) X.env) :: starEach [] X.env := by rfl) :
    PD X (.Call (.Name "sorted" p) [.Name x px] [] pos) σ R (.list ((settle (L.map (·.2))).map tupI)) :=
  .of (pe_callB (cr_sortDV hc hu) hg B.sorted (by decide +kernel) (pa_cons (pe_var hN hv hdb hcd) pa_nil he) (by decide) (by decide) he) fun H Q sb k => ⟨.ref l, hσ, l, L, rfl, sb _ _ hd.1, fun p hp => same_tup sb (hd.2 p hp), hne, fun nd p hp => by
    have g := Grow.add (o := .lst ((psort L).map fun q => V.ref q.1)) sb hp
    have d : DvAll X.K (upd R p (.lst ((psort L).map fun q => V.ref q.1))) ((psort L).map fun q => V.ref q.1) (((psort L).map (·.2)).map tupI) := DvAll.ofPvs fun r hr => same_tup g.sub (hd.2 r ((psort_perm L).mem_iff.mp hr))
    have e : (psort L).map (·.2) = settle (L.map (·.2)) := by
      rw [psort_snd]
      exact vsort_settle nd fun v => Iff.rfl
    rw [e] at d
    exact k _ _ _ g (.lst upd_same d)⟩
end
end NF

set_option Elab.async false
set_option linter.all false
set_option maxRecDepth 100000
set_option maxHeartbeats 2000000
namespace NF
open PySem PySem.Spec PyProof.Rows L2
section
variable {X : Cx} {t : Option Addr} {n : Nat} {e a b : Expr} {σ : L2.St} {R : Hp} {d d1 d2 : PyData} {ds : List PyData} {pos : Pos} {W1 : Nat → PyData → Prop}
theorem ptd_cmp {op : CmpOp} {r : R2} {c : Bool} (ho : OpR X (compareOp op) r) (ha : PD X a σ R d1) (hb : PD X b σ R d2)
    (k : ∀ (x y : V) (H1 : Hp) (Q : VK), Dv X.K H1 x d1 → Dv X.K H1 y d2 → Q (.bl c) H1 → r x y H1 Q) (hm : behindInMarks op b = false := by exact nomark _) : PTD X (.Compare a [op] [b] pos) σ R c :=
  .of (pt_cmpR ho pe_pd pe_pd hm) fun H Q sb q => ⟨R, d1, sb, ha, fun v H1 R1 g1 dv => ⟨R1, d2, g1.inn, hb.mono g1.sub, fun u H2 R2 g2 du =>
    k v u H2 _ (Dv_mono g2.inn (Dv_mono g2.sub dv)) (Dv_mono g2.inn du) ⟨c, rfl, q H2 R2 (g1.trans g2)⟩⟩⟩
theorem ptd_eq (hu : X.A.units + 64 < cLine) (ha : PD X a σ R d1) (hb : PD X b σ R d2) (s1 : SeqAt.shaped d1 = true) (s2 : SeqAt.shaped d2 = true) : PTD X (.Compare a [.Eq] [b] pos) σ R (PyData.eqv d1 d2) :=
  ptd_cmp (op_eqD hu) ha hb fun x y H Q h1 h2 q => ⟨_, _, h1.dp, h2.dp, s1, s2, q⟩
theorem ptd_ne (hu : X.A.units + 64 < cLine) (ha : PD X a σ R d1) (hb : PD X b σ R d2) (s1 : SeqAt.shaped d1 = true) (s2 : SeqAt.shaped d2 = true) : PTD X (.Compare a [.NotEq] [b] pos) σ R (!PyData.eqv d1 d2) :=
  ptd_cmp (op_neD hu) ha hb fun x y H Q h1 h2 q => ⟨_, _, h1.dp, h2.dp, s1, s2, q⟩
theorem ptd_lt {i j : Int} (ha : PD X a σ R (.int i)) (hb : PD X b σ R (.int j)) : PTD X (.Compare a [.Lt] [b] pos) σ R (decide (i < j)) :=
  ptd_cmp op_lt ha hb fun x y H Q h1 h2 q => by cases h1; cases h2; exact ⟨i, j, rfl, rfl, q⟩
theorem ptd_gt {i j : Int} (ha : PD X a σ R (.int i)) (hb : PD X b σ R (.int j)) : PTD X (.Compare a [.Gt] [b] pos) σ R (decide (j < i)) :=
  ptd_cmp op_gt ha hb fun x y H Q h1 h2 q => by cases h1; cases h2; exact ⟨i, j, rfl, rfl, q⟩
theorem ptd_ltT {ns ms : List Int} (hu : X.A.units < cLine) (ha : PD X a σ R (tupI ns)) (hb : PD X b σ R (tupI ms)) : PTD X (.Compare a [.Lt] [b] pos) σ R (HT.lexLt ns ms) :=
  ptd_cmp (op_ltT hu) ha hb fun x y H Q h1 h2 q => by
    obtain ⟨p, rfl, s1⟩ := Dv.tupI h1
    obtain ⟨p2, rfl, s2⟩ := Dv.tupI h2
    exact ⟨p, p2, ns, ms, rfl, rfl, s1, s2, q⟩
theorem ptd_leT {ns ms : List Int} (hu : X.A.units < cLine) (ha : PD X a σ R (tupI ns)) (hb : PD X b σ R (tupI ms)) : PTD X (.Compare a [.LtE] [b] pos) σ R (lexLeI ns ms) :=
  ptd_cmp (op_leT hu) ha hb fun x y H Q h1 h2 q => by
    obtain ⟨p, rfl, s1⟩ := Dv.tupI h1
    obtain ⟨p2, rfl, s2⟩ := Dv.tupI h2
    exact ⟨p, p2, ns, ms, rfl, rfl, s1, s2, by rw [lexAt_le]; exact q⟩
theorem ptd_inT (hu : X.A.units + 65 < cLine) (ha : PD X a σ R d) (hb : PD X b σ R (.tuple ds)) (s1 : SeqAt.shaped d = true) (s2 : SeqAt.shaped (.tuple ds) = true) (hm : behindInMarks .In b = false := by rfl) : PTD X (.Compare a [.In] [b] pos) σ R (ds.any fun z => PyData.eqv z d) :=
  ptd_cmp (op_inDT hu) ha hb (fun x y H Q h1 h2 q => ⟨_, _, h1.dp, h2.dp, s1, s2, q⟩) hm
theorem ptd_inL (hu : X.A.units + 65 < cLine) (ha : PD X a σ R d) (hb : PD X b σ R (.list ds)) (s1 : SeqAt.shaped d = true) (s2 : SeqAt.shaped (.list ds) = true) (hm : behindInMarks .In b = false := by rfl) : PTD X (.Compare a [.In] [b] pos) σ R (ds.any fun z => PyData.eqv z d) :=
  ptd_cmp (op_inD hu) ha hb (fun x y H Q h1 h2 q => ⟨_, _, h1.dp, h2.dp, s1, s2, q⟩) hm
theorem ptd_isN {j pos'} (ha : PD X a σ R d) : PTD X (.Compare a [.Is] [.Constant .none j pos'] pos) σ R (isNon d) :=
  .of (pt_cmpR op_isN pe_pd pe_non (nomark _)) fun H Q sb k => ⟨R, d, sb, ha, fun v H1 R1 g dv => ⟨rfl, _, rfl, by
    rw [Dv.isNon dv]
    exact k H1 R1 g⟩⟩
theorem ptd_notN {j pos'} (ha : PD X a σ R d) : PTD X (.Compare a [.IsNot] [.Constant .none j pos'] pos) σ R (!isNon d) :=
  .of (pt_cmpR op_notN pe_pd pe_non (nomark _)) fun H Q sb k => ⟨R, d, sb, ha, fun v H1 R1 g dv => ⟨rfl, _, rfl, by
    rw [Dv.isNon dv]
    exact k H1 R1 g⟩⟩
/-- what is drawn against an int -/
theorem ewt_gt {Wc : Nat → Bool → Prop} {j : Int} (ha : EW X t n a σ R W1) (hb : ∀ R1, Same R R1 → PD X b σ R1 (.int j)) (w : ∀ m d, W1 m d → ∃ i, d = .int i ∧ Wc m (decide (j < i))) : EWT X t n (.Compare a [.Gt] [b] pos) σ R Wc :=
  .of (pt_cmpR op_gt pe_ew pe_pd (nomark _)) fun H Q bx sb q => ⟨t, n, R, W1, bx, sb, ha, fun v H1 R1 m d b1 g1 dv w1 => ⟨R1, .int j, g1.inn.trans (hid_le t H1), hb R1 g1.sub, fun u H2 R2 g2 du => by
    obtain ⟨i, rfl, wc⟩ := w m d w1
    cases dv
    cases du
    obtain ⟨g3, b3⟩ := g2.box g1.inn b1
    exact ⟨i, j, rfl, rfl, _, rfl, q H2 R2 m _ b3 (g1.trans g3) wc⟩⟩⟩
theorem ew_eqI {W : Nat → PyData → Prop} {j : Int} (hu : X.A.units + 64 < cLine) (ha : EW X t n a σ R W1) (hb : ∀ R1, Same R R1 → PD X b σ R1 (.int j)) (w : ∀ m d, W1 m d → ∃ i, d = .int i ∧ W m (.bool (i == j))) : EW X t n (.Compare a [.Eq] [b] pos) σ R W :=
  .of (pe_cmpR (op_eqD hu) pe_ew pe_pd (nomark _)) fun H Q bx sb q => ⟨t, n, R, W1, bx, sb, ha, fun v H1 R1 m d b1 g1 dv w1 => ⟨R1, .int j, g1.inn.trans (hid_le t H1), hb R1 g1.sub, fun u H2 R2 g2 du => by
    obtain ⟨i, rfl, wc⟩ := w m d w1
    obtain ⟨g3, b3⟩ := g2.box g1.inn b1
    exact ⟨.int i, .int j, (Dv_mono g2.inn (Dv_mono g2.sub dv)).dp, (Dv_mono g2.inn du).dp, rfl, rfl, q _ H2 R2 m _ b3 (g1.trans g3) (.bl _) wc⟩⟩⟩
end
theorem pg2 {X : Cx} {x y : Str} {px : Pos} {py : Pos} {k : Nat} {pos : Pos} (i j : Nat) (hc : X.calm = true) (nd : X.N.Nodup) (hx : X.N[i]? = some x := by rfl) (lx : Loc X.env.scope x := by first | exact Or.inl rfl | exact Or.inr rfl) (fx : X.fn x = true ∨ X.env.scope.names.lookup x = some .local := by first | exact .inl rfl | exact .inr rfl) (hy : X.N[j]? = some y := by rfl) (ly : Loc X.env.scope y := by first | exact Or.inl rfl | exact Or.inr rfl) (fy : X.fn y = true ∨ X.env.scope.names.lookup y = some .local := by first | exact .inl rfl | exact .inr rfl) (e0 : (assignEach ([.Name x px, .Name y py] : List Expr) X.env).map (·.2) = assign (.Name x px) X.env :: (assignEach ([.Name y py] : List Expr) X.env).map (·.2) := by rfl) (e1 : (assignEach ([.Name y py] : List Expr) X.env).map (·.2) = assign (.Name y py) X.env :: (assignEach ([] : List Expr) X.env).map (·.2) := by rfl)
    (hn : (assignEach ([.Name x px, .Name y py] : List Expr) X.env).length = 2 := by rfl) (hst : (assignEach ([.Name x px, .Name y py] : List Expr) X.env).findIdx? (·.1) = none := by rfl) : PG X (.Tuple [.Name x px, .Name y py] k pos) (gTup X.K 2 (gCons (gName i) (gCons (gName j) gNil))) :=
  pg_tup hc (pgs_cons (pg_name nd hx lx fx) (pgs_cons (pg_name nd hy ly fy) pgs_nil e1) e0) hn hst
theorem pg3 {X : Cx} {x y z : Str} {px : Pos} {py : Pos} {pz : Pos} {k : Nat} {pos : Pos} (i j l : Nat) (hc : X.calm = true) (nd : X.N.Nodup) (hx : X.N[i]? = some x := by rfl) (lx : Loc X.env.scope x := by first | exact Or.inl rfl | exact Or.inr rfl) (fx : X.fn x = true ∨ X.env.scope.names.lookup x = some .local := by first | exact .inl rfl | exact .inr rfl) (hy : X.N[j]? = some y := by rfl) (ly : Loc X.env.scope y := by first | exact Or.inl rfl | exact Or.inr rfl) (fy : X.fn y = true ∨ X.env.scope.names.lookup y = some .local := by first | exact .inl rfl | exact .inr rfl) (hz : X.N[l]? = some z := by rfl) (lz : Loc X.env.scope z := by first | exact Or.inl rfl | exact Or.inr rfl) (fz : X.fn z = true ∨ X.env.scope.names.lookup z = some .local := by first | exact .inl rfl | exact .inr rfl) (e0 : (assignEach ([.Name x px, .Name y py, .Name z pz] : List Expr) X.env).map (·.2) = assign (.Name x px) X.env :: (assignEach ([.Name y py, .Name z pz] : List Expr) X.env).map (·.2) := by rfl) (e1 : (assignEach ([.Name y py, .Name z pz] : List Expr) X.env).map (·.2) = assign (.Name y py) X.env :: (assignEach ([.Name z pz] : List Expr) X.env).map (·.2) := by rfl) (e2 : (assignEach ([.Name z pz] : List Expr) X.env).map (·.2) = assign (.Name z pz) X.env :: (assignEach ([] : List Expr) X.env).map (·.2) := by rfl)
    (hn : (assignEach ([.Name x px, .Name y py, .Name z pz] : List Expr) X.env).length = 3 := by rfl) (hst : (assignEach ([.Name x px, .Name y py, .Name z pz] : List Expr) X.env).findIdx? (·.1) = none := by rfl) : PG X (.Tuple [.Name x px, .Name y py, .Name z pz] k pos) (gTup X.K 3 (gCons (gName i) (gCons (gName j) (gCons (gName l) gNil)))) :=
  pg_tup hc (pgs_cons (pg_name nd hx lx fx) (pgs_cons (pg_name nd hy ly fy) (pgs_cons (pg_name nd hz lz fz) pgs_nil e2) e1) e0) hn hst
theorem pg4 {X : Cx} {x y z w : Str} {px : Pos} {py : Pos} {pz : Pos} {pw : Pos} {k : Nat} {pos : Pos} (i j l m : Nat) (hc : X.calm = true) (nd : X.N.Nodup) (hx : X.N[i]? = some x := by rfl) (lx : Loc X.env.scope x := by first | exact Or.inl rfl | exact Or.inr rfl) (fx : X.fn x = true ∨ X.env.scope.names.lookup x = some .local := by first | exact .inl rfl | exact .inr rfl) (hy : X.N[j]? = some y := by rfl) (ly : Loc X.env.scope y := by first | exact Or.inl rfl | exact Or.inr rfl) (fy : X.fn y = true ∨ X.env.scope.names.lookup y = some .local := by first | exact .inl rfl | exact .inr rfl) (hz : X.N[l]? = some z := by rfl) (lz : Loc X.env.scope z := by first | exact Or.inl rfl | exact Or.inr rfl) (fz : X.fn z = true ∨ X.env.scope.names.lookup z = some .local := by first | exact .inl rfl | exact .inr rfl) (hw : X.N[m]? = some w := by rfl) (lw : Loc X.env.scope w := by first | exact Or.inl rfl | exact Or.inr rfl) (fw : X.fn w = true ∨ X.env.scope.names.lookup w = some .local := by first | exact .inl rfl | exact .inr rfl) (e0 : (assignEach ([.Name x px, .Name y py, .Name z pz, .Name w pw] : List Expr) X.env).map (·.2) = assign (.Name x px) X.env :: (assignEach ([.Name y py, .Name z pz, .Name w pw] : List Expr) X.env).map (·.2) := by rfl) (e1 : (assignEach ([.Name y py, .Name z pz, .Name w pw] : List Expr) X.env).map (·.2) = assign (.Name y py) X.env :: (assignEach ([.Name z pz, .Name w pw] : List Expr) X.env).map (·.2) := by rfl) (e2 : (assignEach ([.Name z pz, .Name w pw] : List Expr) X.env).map (·.2) = assign (.Name z pz) X.env :: (assignEach ([.Name w pw] : List Expr) X.env).map (·.2) := by rfl) (e3 : (assignEach ([.Name w pw] : List Expr) X.env).map (·.2) = assign (.Name w pw) X.env :: (assignEach ([] : List Expr) X.env).map (·.2) := by rfl)
    (hn : (assignEach ([.Name x px, .Name y py, .Name z pz, .Name w pw] : List Expr) X.env).length = 4 := by rfl) (hst : (assignEach ([.Name x px, .Name y py, .Name z pz, .Name w pw] : List Expr) X.env).findIdx? (·.1) = none := by rfl) : PG X (.Tuple [.Name x px, .Name y py, .Name z pz, .Name w pw] k pos) (gTup X.K 4 (gCons (gName i) (gCons (gName j) (gCons (gName l) (gCons (gName m) gNil))))) :=
  pg_tup hc (pgs_cons (pg_name nd hx lx fx) (pgs_cons (pg_name nd hy ly fy) (pgs_cons (pg_name nd hz lz fz) (pgs_cons (pg_name nd hw lw fw) pgs_nil e3) e2) e1) e0) hn hst
end NF

set_option Elab.async false
set_option linter.all false
set_option maxRecDepth 100000
set_option maxHeartbeats 2000000
namespace NF
open PySem PySem.Spec PyProof.Rows L2
section
variable {X : Cx} {tg e e2 : Expr} {σ : L2.St} {R R1 : Hp} {d d2 : PyData} {ds es : List PyData} {pos p : Pos}
theorem pd_lcT {α : Type} {l : List α} {enc : α → PyData} {elt iter : Expr} {ifs : List Expr} {scope : Scope} {own : List (Str × Nat)} {f : α → Option PyData} {g : TG} (hc : X.calm = true) (hN : X.N.Nodup) (hi : PID X tg iter σ R (l.map enc)) (ok : BlkOk X.N X.env.scope scope own) (hl : l.length ≤ sizeLine)
    (hg : ∀ (s : Shared) (H : Hp) (C : Addr) (cl : List (Str × Addr)) (fp : List Addr), PG (X.blk s H scope (compEnvC scope cl C X.env) fp) tg g)
    (turn : ∀ (x : α) (v : V) (R1 H1 : Hp) (k : L2.St → Hp → Prop), x ∈ l → Same R R1 → Same R1 H1 → Dv X.K R1 v (enc x) →
      (∀ σ2, wipe σ2 (own.map (·.2)) = wipe σ (own.map (·.2)) → LcB X scope ifs elt σ2 R1 (f x) → k σ2 H1) → g v (wipe σ (own.map (·.2))) H1 k)
    (hs : ∀ x, foldedSetIterable iter X.env x = pure x := by intro _; rfl) : PD X (.ListComp elt [⟨tg, iter, ifs, 0⟩] scope pos) σ R (.list (l.filterMap f)) := by
  let tt : TT := fun σ2 H Q => ∃ R1 b, Same R1 H ∧ (∀ (s : Shared) (H : Hp) (C : Addr) (cl : List (Str × Addr)) (fp : List Addr), PTsD (X.blk s H scope (compEnvC scope cl C X.env) fp) ifs σ2 R1 b) ∧ ∀ H' R', Grow R1 H R' H' → Q b H'
  let te : TE := fun σ2 H Q => ∃ R1 e, Same R1 H ∧ (∀ (s : Shared) (H : Hp) (C : Addr) (cl : List (Str × Addr)) (fp : List Addr), PD (X.blk s H scope (compEnvC scope cl C X.env) fp) elt σ2 R1 e) ∧ ∀ v H' R', Grow R1 H R' H' → Dv X.K R' v e → Q v H'
  have ht : ∀ (s : Shared) (H : Hp) (C : Addr) (cl : List (Str × Addr)) (fp : List Addr), PTs (X.blk s H scope (compEnvC scope cl C X.env) fp) ifs tt := fun s0 H0 C cl fp => ⟨fun pins s σ H Q I h => by
    obtain ⟨R1, b, sb, p, k⟩ := h
    obtain ⟨t, h1, h2⟩ := p s0 H0 C cl fp
    exact h1.run pins s σ H Q I (h2 H Q sb k)⟩
  have he : ∀ (s : Shared) (H : Hp) (C : Addr) (cl : List (Str × Addr)) (fp : List Addr), PE (X.blk s H scope (compEnvC scope cl C X.env) fp) elt te := fun s0 H0 C cl fp => ⟨fun pins s σ H Q I h => by
    obtain ⟨R1, e, sb, p, k⟩ := h
    exact (p s0 H0 C cl fp).run pins s H Q I sb k⟩
  refine .of (pe_lc hc hN pi_pd ok hg ht he hs) fun H Q sb q => ⟨R, l.map enc, sb, hi, fun J H1 R1 g1 w D hD => ?_⟩
  refine ⟨fun i m H2 => m = l.length - i ∧ i ≤ l.length ∧ ∃ R2 acc, Grow R1 H1 R2 H2 ∧ R2 D = none ∧ H2 D = some (.lst acc) ∧ DvAll X.K R2 acc ((l.take i).filterMap f), ⟨l.length, by simp, Nat.zero_le _, R1, [], Grow.hide g1.inn hD, g1.inn.free hD, upd_same, .nil⟩, ?_⟩
  rintro i m H2 ⟨rfl, hle, R2, acc, g2, r2, hD2, dvs⟩
  have lacc : acc.length ≤ i := by
    rw [DvAll.len dvs]
    exact Nat.le_trans (List.length_filterMap_le ..) (by rw [List.length_take]; exact Nat.min_le_left _ _)
  by_cases hlt : i < l.length
  · refine .inr ⟨w.goes i R2 H2 g2.sub g2.inn (by rw [List.length_map]; exact hlt), fun H3 => ∃ R3 acc, Grow R1 H1 R3 H3 ∧ R3 D = none ∧ H3 D = some (.lst acc) ∧ DvAll X.K R3 acc ((l.take (i + 1)).filterMap f), fun H3 h3 => ⟨l.length - (i + 1), by omega, rfl, hlt, h3⟩, fun x H3 y => ?_⟩
    obtain ⟨R3, d, g3, ed', dv⟩ := w.yields i R2 H2 x H3 g2.sub g2.inn (by rw [List.length_map]; exact hlt) y
    have ed : l[i]? = some l[i] := List.getElem?_eq_getElem hlt
    have ee : d = enc l[i] := by
      rw [List.getElem?_map, ed] at ed'
      exact (Option.some.inj ed').symm
    subst ee
    have off3 := g3.off r2 hD2
    refine turn l[i] x R3 H3 _ (List.mem_of_getElem? ed) ((g1.sub.trans g2.sub).trans g3.sub) g3.inn dv fun σ2 hw ⟨b, hb, h1, h2⟩ => ⟨hw, R3, b, g3.inn, hb, fun H4 R4 g4 => ?_⟩
    have off4 := g4.off off3.1 off3.2
    have g14 := (g2.trans g3).trans g4
    have tk : (l.take (i + 1)).filterMap f = (l.take i).filterMap f ++ (f l[i]).toList := by
      rw [take_next ed, List.filterMap_append]
      cases hf : f l[i] with
      | none => simp [hf]
      | some z => simp [hf]
    cases b with
    | false =>
      rw [h2 rfl] at tk
      refine iteF ?_
      exact ⟨R4, acc, g14, off4.1, off4.2, by rw [tk]; simpa using DvAll_mono (g3.sub.trans g4.sub) dvs⟩
    | true =>
      obtain ⟨e, ef, pe⟩ := h1 rfl
      rw [ef] at tk
      refine iteT ?_
      refine ⟨R4, e, g4.inn, fun s0 H0 C cl fp => (pe s0 H0 C cl fp).mono g4.sub, fun v H5 R5 g5 dv5 => ?_⟩
      have off5 := g5.off off4.1 off4.2
      have g15 := g14.trans g5
      have nD1 : H1 D = none := hD
      refine ⟨acc, off5.2, Nat.lt_of_lt_of_le (Nat.lt_of_le_of_lt lacc hlt) hl, R5, acc ++ [v], ⟨fun c o ec => ?_, g15.sub, fun c o ec => ?_, g15.new⟩, off5.1, upd_same, ?_⟩
      · have hcD : c ≠ D := ne_of_none ec nD1
        rw [upd_ne hcD]
        exact g15.ext _ _ ec
      · have hcD : c ≠ D := fun z => by rw [z, off5.1] at ec; cases ec
        rw [upd_ne hcD]
        exact g15.inn _ _ ec
      · rw [tk]
        exact (DvAll_mono ((g3.sub.trans g4.sub).trans g5.sub) dvs).app (.cons dv5 .nil)
  · have ei : i = l.length := by omega
    subst ei
    rw [List.take_length] at dvs
    refine .inl ⟨(by have := w.stops R2 H2 g2.sub g2.inn; rw [List.length_map] at this; exact this), q (.ref D) H2 (upd R2 D (.lst acc)) (g1.trans ⟨g2.ext, g2.sub.trans (same_upd r2), fun c o ec => ?_, fun c o ec => ?_⟩) (.lst upd_same (DvAll_mono (same_upd r2) dvs))⟩
    · by_cases hc : c = D
      · subst hc
        rw [upd_same] at ec
        rw [hD2]
        exact ec
      · rw [upd_ne hc] at ec
        exact g2.inn _ _ ec
    · by_cases hc : c = D
      · subst hc
        exact .inr hD
      · rw [upd_ne hc] at ec
        exact g2.new _ _ ec
end
end NF

set_option Elab.async false
set_option linter.all false
set_option maxRecDepth 100000
set_option maxHeartbeats 2000000
namespace NF
open PySem PySem.Spec PyProof.Rows L2
/-- the readable part without l -/
def cutH (R : Hp) (l : Addr) : Hp := fun a => if a = l then none else R a
theorem cut_l {R : Hp} {l : Addr} : cutH R l l = none := if_pos rfl
theorem cut_ne {R : Hp} {l a : Addr} (h : a ≠ l) : cutH R l a = R a := if_neg h
theorem cut_same {R : Hp} {l : Addr} : Same (cutH R l) R := fun a o e => by
  by_cases h : a = l
  · rw [h, cut_l] at e; cases e
  · rw [cut_ne h] at e; exact e
theorem same_cut {P R : Hp} {l : Addr} (s : Same P R) (h : P l = none) : Same P (cutH R l) := fun a o e => by
  rw [cut_ne (ne_of_none e h)]
  exact s _ _ e
section
variable {K : PySem.W.Frag} {R : Hp} {l : Addr} {ws : List V} {o : HO} {φ : Heap → Prop}
mutual
theorem cutD (hl : R l = some (.lst ws)) : ∀ (d : PyData) (v : V), noL d = true → Dv K R v d → Dv K (cutH R l) v d
  | .none, _, _, h => by cases h; exact .non
  | .bool _, _, _, h => by cases h; exact .bl _
  | .int _, _, _, h => by cases h; exact .int _
  | .str _, _, _, h => by cases h; exact .str _
  | .list _, _, n, _ => by cases n
  | .tuple ds, _, n, h => by
    cases h with
    | tup a b =>
      refine .tup ?_ (cutDs hl ds _ n b)
      rcases a with (a | ⟨o, a⟩) | a
      · exact .inl (.inl (by rw [cut_ne (fun e => by rw [e, hl] at a; cases a)]; exact a))
      · exact .inl (.inr ⟨o, by rw [cut_ne (fun e => by rw [e, hl] at a; cases a)]; exact a⟩)
      · exact .inr a
  | .dict _, _, n, _ => by cases n
theorem cutDs (hl : R l = some (.lst ws)) : ∀ (ds : List PyData) (vs : List V), noLs ds = true → DvAll K R vs ds → DvAll K (cutH R l) vs ds
  | [], _, _, h => by cases h; exact .nil
  | d :: ds, _, n, h => by
    cases h with
    | cons a b =>
      have n' : (noL d && noLs ds) = true := n
      rw [Bool.and_eq_true] at n'
      exact .cons (cutD hl d _ n'.1 a) (cutDs hl ds _ n'.2 b)
end
theorem Dv.cut {v : V} {d : PyData} (h : Dv K R v d) (hl : R l = some (.lst ws)) (n : noL d = true) : Dv K (cutH R l) v d := cutD hl d v n h
mutual
theorem cutXD (hl : R l = some (.ext φ)) : ∀ (d : PyData) (v : V), Dv K R v d → Dv K (cutH R l) v d
  | .none, _, h => by cases h; exact .non
  | .bool _, _, h => by cases h; exact .bl _
  | .int _, _, h => by cases h; exact .int _
  | .str _, _, h => by cases h; exact .str _
  | .list ds, _, h => by
    cases h with
    | lst a b => exact .lst (by rw [cut_ne (fun e => by rw [e, hl] at a; cases a)]; exact a) (cutXDs hl ds _ b)
  | .tuple ds, _, h => by
    cases h with
    | tup a b =>
      refine .tup ?_ (cutXDs hl ds _ b)
      rcases a with (a | ⟨o, a⟩) | a
      · exact .inl (.inl (by rw [cut_ne (fun e => by rw [e, hl] at a; cases a)]; exact a))
      · exact .inl (.inr ⟨o, by rw [cut_ne (fun e => by rw [e, hl] at a; cases a)]; exact a⟩)
      · exact .inr a
  | .dict _, _, h => by cases h
theorem cutXDs (hl : R l = some (.ext φ)) : ∀ (ds : List PyData) (vs : List V), DvAll K R vs ds → DvAll K (cutH R l) vs ds
  | [], _, h => by cases h; exact .nil
  | d :: ds, _, h => by
    cases h with
    | cons a b => exact .cons (cutXD hl d _ a) (cutXDs hl ds _ b)
end
theorem Dv.cutX {v : V} {d : PyData} (h : Dv K R v d) (hl : R l = some (.ext φ)) : Dv K (cutH R l) v d := cutXD hl d v h
end
section
variable {X : Cx} {t : Option Addr} {n : Nat} {body rest : List Stmt} {tg iter : Expr} {σ : L2.St} {R0 P P' R : Hp} {N : Nat → L2.St → Hp → Prop} {T : Nat → PyData → Prop} {pos : Pos}
theorem sw_moreP (h : SW X t n body σ R0 P' R N T) (s : Same P P') (s' : Same P' R) : SW X t n body σ R0 P R N T :=
  ⟨fun pins sh H0 H D I bx g _ kn kt => h.run pins sh H0 H D I bx g s' (fun σ' H' R' m b g' sp w => kn σ' H' R' m b g' (s.trans sp) w) kt⟩
/-- what isn't written: all but l -/
theorem sw_cut {l : Addr} (hP : P l = none) (sp : Same P R) (h : SW X t n body σ R0 (cutH R l) R N T) : SW X t n body σ R0 P R N T := sw_moreP h (same_cut sp hP) cut_same
theorem sw_imp {N' : Nat → L2.St → Hp → Prop} (h : SW X t n body σ R0 P R N T) (i : ∀ m σ' R', N m σ' R' → N' m σ' R') : SW X t n body σ R0 P R N' T :=
  ⟨fun pins sh H0 H D I bx g sp kn kt => h.run pins sh H0 H D I bx g sp (fun σ' H' R' m b g' sp w => kn σ' H' R' m b g' sp (i m σ' R' w)) kt⟩
theorem sw_forT {α : Type} {l : List α} {enc : α → PyData} {g : TG} (Pv : Nat → L2.St → Hp → Prop) (hp : PassesOwn (model X.prog X.w) X.A X.env X.xe) (hc : X.calm = true) (hi : PID X tg iter σ P (l.map enc)) (hg : PG X tg g)
    (h0 : ∀ R1, Same R R1 → Pv 0 σ R1) (mo : ∀ i σ R R', Pv i σ R → Same R R' → Pv i σ R')
    (turn : ∀ i x v j σ' R' P1 H1 k, l[i]? = some x → (∀ a, R a ≠ none → P a = none → P1 a = none) → Pv i σ' R' → Same P1 R' → Dv X.K R' v (enc x) → Same R' H1 → (∀ σ2, SW X t j body σ2 R0 P1 R' (fun _ => Pv (i + 1)) T → k σ2 H1) → g v σ' H1 k)
    (done : ∀ j σ' R', Pv l.length σ' R' → Same P R' → SW X t j rest σ' R0 P R' N T)
    (hs : ∀ x, foldedSetIterable iter X.env x = pure x := by intro _; rfl) : SW X t n (.For tg iter body [] pos :: rest) σ R0 P R N T :=
  sw_for (Wl := fun _ ds => ds = l.map enc) hp hc (eiw_pid hi rfl) hg (fun P1 m ds sP hfree e => by
    subst e
    refine ⟨fun i _ => Pv i, fun R1 s _ => h0 R1 s, fun i _ => mo i, fun i d v j σ' R' H1 k hd pv sp dv sH kk => ?_, fun j σ' R' pv sp => done j σ' R' (by rw [List.length_map] at pv; exact pv) sp⟩
    rw [List.getElem?_map] at hd
    cases hx : l[i]? with
    | none => rw [hx] at hd; cases hd
    | some x =>
      rw [hx] at hd
      have e : enc x = d := Option.some.inj hd
      subst e
      exact turn i x v j σ' R' P1 H1 k hx hfree pv sp dv sH kk) hs
end
end NF

set_option linter.all false
namespace NF
abbrev Pr := Ver × Option Ver
abbrev Span := List Pr
abbrev Row := List Int
def holdsP (p : Pr) (v : Ver) : Bool := decide (vle p.1 v) && (match p.2 with | none => true | some h => decide (v < h))
def inn (s : Span) (v : Ver) : Bool := s.any fun p => holdsP p v
def endsP (p : Pr) : List Ver := p.1 :: p.2.toList
def endsS (s : Span) : List Ver := s.flatMap endsP
def ends (ss : List Span) : List Ver := ss.flatMap endsS
def first : Ver := [0, 0, 0, -9]
def cuts (ss : List Span) : List Ver := settle (first :: ends ss)
/-- stretches between the cuts -/
def strL : List Ver → List Pr
  | [] => []
  | [c] => [(c, none)]
  | c :: d :: r => (c, some d) :: strL (d :: r)
/-- numbers from n on of the spans that hold v -/
def numsFrom : Nat → List Span → Ver → Row
  | _, [], _ => []
  | n, s :: ss, v => if inn s v then (n : Int) :: numsFrom (n + 1) ss v else numsFrom (n + 1) ss v
def nums (ss : List Span) (v : Ver) : Row := numsFrom 0 ss v
abbrev Gr := Ver × Option Ver × Row
/-- reversed accumulators: the last is the head -/
def stepG (acc : List Gr) (lo : Ver) (hi : Option Ver) (k : Row) : List Gr := match acc with
  | [] => [(lo, hi, k)]
  | (l, h, m) :: t => if m = k then (l, hi, k) :: t else (lo, hi, k) :: (l, h, m) :: t
def grainsR (ss : List Span) : List Pr → List Gr → List Gr
  | [], acc => acc
  | p :: ps, acc => grainsR ss ps (stepG acc p.1 p.2 (nums ss p.1))
def grains (ss : List Span) : List Gr := (grainsR ss (strL (cuts ss)) []).reverse
def stepJ (acc : Span) (lo : Ver) (hi : Option Ver) : Span := match acc with
  | [] => [(lo, hi)]
  | (l, h) :: t => if h = some lo then (l, hi) :: t else (lo, hi) :: (l, h) :: t
def joinR : List Pr → Span → Span
  | [], acc => acc
  | p :: ps, acc => joinR ps (stepJ acc p.1 p.2)
def joined (ps : List Pr) : Span := (joinR ps []).reverse
def byRows (ss : List Span) (rows : List Row) : Span := joined (((grains ss).filter fun g => decide (g.2.2 ∈ rows)).map fun g => (g.1, g.2.1))
def stepS (acc : Span) (last flag : Bool) (p : Ver) : Span :=
  let a := if flag && !last then (p, none) :: acc else acc
  if last && !flag then (match a with | [] => [] | (l, _) :: t => (l, some p) :: t) else a
def spanR : List (Bool × Ver) → Span → Bool → Span
  | [], acc, _ => acc
  | (f, p) :: r, acc, last => spanR r (stepS acc last f p) f
def spanOf (l : List (Bool × Ver)) : Span := (spanR l [] false).reverse
def flagged (f : Ver → Bool) (ps : List Ver) : List (Bool × Ver) := ps.map fun p => (f p, p)
def byFlags (ss : List Span) (rows : List Row) : Span := spanOf (flagged (fun p => decide (nums ss p ∈ rows)) (cuts ss))
def stepL (acc : List Gr) (p : Ver) (k : Row) : List Gr := match acc with
  | [] => [(p, none, k)]
  | (l, h, m) :: t => if m = k then (l, h, m) :: t else (p, none, k) :: (l, some p, m) :: t
def grainsLR (ss : List Span) : List Ver → List Gr → List Gr
  | [], acc => acc
  | p :: ps, acc => grainsLR ss ps (stepL acc p (nums ss p))
def grainsL (ss : List Span) : List Gr := (grainsLR ss (cuts ss) []).reverse

theorem stepJ_stepJ (A : Span) (l lo : Ver) (hi : Option Ver) : stepJ (stepJ A l (some lo)) lo hi = stepJ A l hi := by
  cases A with
  | nil => simp [stepJ]
  | cons q t =>
    obtain ⟨l', h'⟩ := q
    unfold stepJ
    by_cases h : h' = some l
    · simp [h]
    · simp [h]
def stepW (w : Row → Bool) (acc : Span) (g : Gr) : Span := if w g.2.2 then stepJ acc g.1 g.2.1 else acc
/-- the join of the filtered reversed grains -/
def joinW (w : Row → Bool) : List Gr → Span
  | [] => []
  | g :: t => stepW w (joinW w t) g
theorem joinR_append : ∀ (ps qs : List Pr) (acc : Span), joinR (ps ++ qs) acc = joinR qs (joinR ps acc)
  | [], _, _ => rfl
  | p :: ps, qs, acc => by rw [List.cons_append, joinR, joinR, joinR_append ps qs]
theorem joinW_eq (w : Row → Bool) : ∀ G : List Gr, joinR ((G.reverse.filter fun g => w g.2.2).map fun g => (g.1, g.2.1)) [] = joinW w G
  | [] => rfl
  | g :: t => by
    rw [List.reverse_cons, List.filter_append, List.map_append, joinR_append, joinW_eq w t]
    show _ = stepW w (joinW w t) g
    unfold stepW
    by_cases h : w g.2.2 = true
    · simp [h, joinR]
    · simp [h, joinR]
/-- over the cuts: the grains so far G, the run so far (S, last); nx: the next cut -/
structure RelG (w : Row → Bool) (nx : Option Ver) (G : List Gr) (S : Span) (last : Bool) : Prop where
  tail : ∀ l h m t, G = (l, h, m) :: t → h = nx
  on : last = true → ∃ l t, joinW w G = (l, nx) :: t ∧ S = (l, none) :: t
  off : last = false → joinW w G = S
  low : last = false → ∀ l x t, S = (l, some x) :: t → ∀ c, nx = some c → x < c
theorem relG_step {w : Row → Bool} {G : List Gr} {S : Span} {last : Bool} {c : Ver} {nx : Option Ver} {k : Row} (h : RelG w (some c) G S last) (hn : ∀ d, nx = some d → c < d) : RelG w nx (stepG G c nx k) (stepS S last (w k) c) (w k) := by
  have hJ : joinW w (stepG G c nx k) = stepW w (joinW w G) (c, nx, k) := by
    cases G with
    | nil => rfl
    | cons g t =>
      obtain ⟨l, hh, m⟩ := g
      have e := h.tail l hh m t rfl
      subst e
      unfold stepG
      by_cases hm : m = k
      · subst hm
        simp only [if_true]
        unfold joinW stepW
        by_cases hw : w m = true
        · simp only [hw, if_true]
          rw [stepJ_stepJ]
        · simp [hw]
      · simp only [if_neg hm]
        rfl
  have ht : ∀ l h m t, stepG G c nx k = (l, h, m) :: t → h = nx := by
    intro l hh m t e
    cases G with
    | nil => simp [stepG] at e; exact e.1.2.1.symm
    | cons g t' =>
      obtain ⟨l', h', m'⟩ := g
      unfold stepG at e
      by_cases hm : m' = k
      · simp [hm] at e; exact e.1.2.1.symm
      · simp [hm] at e; exact e.1.2.1.symm
  cases hl : last with
  | true =>
    obtain ⟨l, t, e1, e2⟩ := h.on hl
    cases hw : w k with
    | true =>
      refine ⟨ht, fun _ => ⟨l, t, ?_, ?_⟩, fun z => (nomatch z), fun z => (nomatch z)⟩
      · rw [hJ, e1]; simp [stepW, hw, stepJ]
      · simp [stepS, e2]
    | false =>
      refine ⟨ht, fun z => (nomatch z), fun _ => ?_, fun _ l' x t' e d hd => ?_⟩
      · rw [hJ, e1]; simp [stepW, hw, stepS, e2]
      · simp [stepS, e2] at e
        rw [← e.1.2]
        exact hn d hd
  | false =>
    have e1 := h.off hl
    cases hw : w k with
    | true =>
      refine ⟨ht, fun _ => ⟨c, S, ?_, ?_⟩, fun z => (nomatch z), fun z => (nomatch z)⟩
      · rw [hJ, e1]
        simp only [stepW, hw, if_true]
        cases S with
        | nil => rfl
        | cons q t =>
          obtain ⟨l, x⟩ := q
          unfold stepJ
          have : x ≠ some c := fun z => by
            subst z
            exact vlt_irrefl c (h.low hl l c t rfl c rfl)
          simp [this]
      · simp [stepS]
    | false =>
      refine ⟨ht, fun z => (nomatch z), fun _ => ?_, fun _ l x t e d hd => ?_⟩
      · rw [hJ, e1]; simp [stepW, hw, stepS]
      · simp [stepS] at e
        exact vlt_trans (h.low hl l x t e c rfl) (hn d hd)
theorem byRows_run (w : Row → Bool) (ss : List Span) : ∀ (cs : List Ver) (G : List Gr) (S : Span) (last : Bool), Asc cs → RelG w cs.head? G S last → joinW w (grainsR ss (strL cs) G) = spanR (flagged (fun p => w (nums ss p)) cs) S last
  | [], G, S, last, _, h => by
    show joinW w G = S
    cases hl : last with
    | true =>
      obtain ⟨l, t, e1, e2⟩ := h.on hl
      rw [e1, e2]
      rfl
    | false => exact h.off hl
  | [c], G, S, last, _, h => by
    have := byRows_run w ss [] _ _ _ (by simp [Asc]) (relG_step (nx := none) (k := nums ss c) h (fun d z => (nomatch z)))
    exact this
  | c :: d :: r, G, S, last, ha, h => by
    obtain ⟨h1, h2⟩ := List.pairwise_cons.mp ha
    have := byRows_run w ss (d :: r) _ _ _ h2 (relG_step (nx := some d) (k := nums ss c) h (fun e z => by cases z; exact h1 d List.mem_cons_self))
    exact this
theorem byRows_eq (ss : List Span) (rows : List Row) : byRows ss rows = byFlags ss rows := by
  unfold byRows byFlags joined spanOf grains
  rw [joinW_eq (fun k => decide (k ∈ rows))]
  rw [byRows_run (fun k => decide (k ∈ rows)) ss (cuts ss) [] [] false (asc_settle _) ⟨fun _ _ _ _ e => (nomatch e), fun z => (nomatch z), fun _ => rfl, fun _ _ _ _ e => (nomatch e)⟩]

structure RelB (nx : Option Ver) (G L : List Gr) : Prop where
  both : (G = [] ∧ L = []) ∨ ∃ l k t, G = (l, nx, k) :: t ∧ L = (l, none, k) :: t
theorem grains_run (ss : List Span) : ∀ (cs : List Ver) (G L : List Gr), RelB cs.head? G L → grainsR ss (strL cs) G = grainsLR ss cs L
  | [], G, L, h => by
    rcases h.both with ⟨rfl, rfl⟩ | ⟨l, k, t, rfl, rfl⟩
    · rfl
    · rfl
  | [c], G, L, h => by
    refine grains_run ss [] _ _ ⟨?_⟩
    rcases h.both with ⟨rfl, rfl⟩ | ⟨l, k, t, rfl, rfl⟩
    · exact .inr ⟨_, _, _, rfl, rfl⟩
    · refine .inr ?_
      unfold stepG stepL
      by_cases hk : k = nums ss c
      · simp only [hk, if_true]
        exact ⟨_, _, _, rfl, rfl⟩
      · simp only [if_neg hk]
        exact ⟨_, _, _, rfl, rfl⟩
  | c :: d :: r, G, L, h => by
    refine grains_run ss (d :: r) _ _ ⟨?_⟩
    rcases h.both with ⟨rfl, rfl⟩ | ⟨l, k, t, rfl, rfl⟩
    · exact .inr ⟨_, _, _, rfl, rfl⟩
    · refine .inr ?_
      unfold stepG stepL
      by_cases hk : k = nums ss c
      · simp only [hk, if_true]
        exact ⟨_, _, _, rfl, rfl⟩
      · simp only [if_neg hk]
        exact ⟨_, _, _, rfl, rfl⟩
theorem grains_eq (ss : List Span) : grains ss = grainsL ss := by
  unfold grains grainsL
  rw [grains_run ss (cuts ss) [] [] ⟨.inl ⟨rfl, rfl⟩⟩]

mutual
def b0 : List (Bool × Ver) → Span
  | [] => []
  | (true, p) :: r => b1 p r
  | (false, _) :: r => b0 r
def b1 (a : Ver) : List (Bool × Ver) → Span
  | [] => [(a, none)]
  | (true, _) :: r => b1 a r
  | (false, p) :: r => (a, some p) :: b0 r
end
theorem spanR_b : ∀ (l : List (Bool × Ver)) (acc : Span), (spanR l acc false).reverse = acc.reverse ++ b0 l ∧ ∀ a, (spanR l ((a, none) :: acc) true).reverse = acc.reverse ++ b1 a l
  | [], acc => by
    constructor
    · simp [spanR, b0]
    · intro a; simp [spanR, b1]
  | (true, p) :: r, acc => by
    constructor
    · rw [spanR, b0]
      have : stepS acc false true p = (p, none) :: acc := by simp [stepS]
      rw [this]
      exact (spanR_b r acc).2 p
    · intro a
      rw [spanR, b1]
      have : stepS ((a, none) :: acc) true true p = (a, none) :: acc := by simp [stepS]
      rw [this]
      exact (spanR_b r acc).2 a
  | (false, p) :: r, acc => by
    constructor
    · rw [spanR, b0]
      have : stepS acc false false p = acc := by simp [stepS]
      rw [this]
      exact (spanR_b r acc).1
    · intro a
      rw [spanR, b1]
      have : stepS ((a, none) :: acc) true false p = (a, some p) :: acc := by simp [stepS]
      rw [this, (spanR_b r ((a, some p) :: acc)).1]
      simp
theorem spanOf_b (l : List (Bool × Ver)) : spanOf l = b0 l := by
  unfold spanOf
  rw [(spanR_b l []).1]
  rfl
def Canon (s : Span) : Prop := s.Pairwise (fun near far => ∃ h, near.2 = some h ∧ h < far.1) ∧ ∀ p ∈ s, ∀ h, p.2 = some h → p.1 < h
theorem canon_nil : Canon [] := ⟨.nil, fun _ h => (nomatch h)⟩
theorem b_lows : ∀ l : List (Bool × Ver), (∀ p ∈ b0 l, p.1 ∈ l.map (·.2) ∧ ∀ h, p.2 = some h → h ∈ l.map (·.2)) ∧ ∀ a, ∀ p ∈ b1 a l, (p.1 = a ∨ p.1 ∈ l.map (·.2)) ∧ ∀ h, p.2 = some h → h ∈ l.map (·.2)
  | [] => ⟨fun p h => (nomatch h), fun a p h => by
      rw [b1, List.mem_singleton] at h
      subst h
      exact ⟨.inl rfl, fun h z => (nomatch z)⟩⟩
  | (true, q) :: r => by
    obtain ⟨h0, h1⟩ := b_lows r
    refine ⟨fun p hp => ?_, fun a p hp => ?_⟩
    · rw [b0] at hp
      obtain ⟨z1, z2⟩ := h1 q p hp
      refine ⟨?_, fun h e => List.mem_cons_of_mem _ (z2 h e)⟩
      rcases z1 with z | z
      · rw [z]; exact List.mem_cons_self
      · exact List.mem_cons_of_mem _ z
    · rw [b1] at hp
      obtain ⟨z1, z2⟩ := h1 a p hp
      refine ⟨?_, fun h e => List.mem_cons_of_mem _ (z2 h e)⟩
      rcases z1 with z | z
      · exact .inl z
      · exact .inr (List.mem_cons_of_mem _ z)
  | (false, q) :: r => by
    obtain ⟨h0, h1⟩ := b_lows r
    refine ⟨fun p hp => ?_, fun a p hp => ?_⟩
    · rw [b0] at hp
      obtain ⟨z1, z2⟩ := h0 p hp
      exact ⟨List.mem_cons_of_mem _ z1, fun h e => List.mem_cons_of_mem _ (z2 h e)⟩
    · rw [b1] at hp
      rcases List.mem_cons.mp hp with rfl | hp
      · exact ⟨.inl rfl, fun h e => by cases e; exact List.mem_cons_self⟩
      · obtain ⟨z1, z2⟩ := h0 p hp
        exact ⟨.inr (List.mem_cons_of_mem _ z1), fun h e => List.mem_cons_of_mem _ (z2 h e)⟩
theorem b_canon : ∀ l : List (Bool × Ver), Asc (l.map (·.2)) → Canon (b0 l) ∧ ∀ a, (∀ p ∈ l.map (·.2), a < p) → Canon (b1 a l)
  | [], _ => ⟨canon_nil, fun a _ => ⟨by simp [b1], fun p hp h e => by
      rw [b1, List.mem_singleton] at hp
      subst hp
      cases e⟩⟩
  | (true, q) :: r, h => by
    obtain ⟨h1, h2⟩ := List.pairwise_cons.mp h
    obtain ⟨c0, c1⟩ := b_canon r h2
    refine ⟨?_, fun a ha => ?_⟩
    · rw [b0]; exact c1 q h1
    · rw [b1]; exact c1 a fun p hp => ha p (List.mem_cons_of_mem _ hp)
  | (false, q) :: r, h => by
    obtain ⟨h1, h2⟩ := List.pairwise_cons.mp h
    obtain ⟨c0, c1⟩ := b_canon r h2
    refine ⟨?_, fun a ha => ?_⟩
    · rw [b0]; exact c0
    · rw [b1]
      refine ⟨List.pairwise_cons.mpr ⟨fun p hp => ⟨q, rfl, h1 p.1 ((b_lows r).1 p hp).1⟩, c0.1⟩, fun p hp x e => ?_⟩
      rcases List.mem_cons.mp hp with rfl | hp
      · cases e; exact ha q List.mem_cons_self
      · exact c0.2 p hp x e
/-- the flag of the last point not above v -/
def flagOf : List (Bool × Ver) → Ver → Bool → Bool
  | [], _, d => d
  | (f, p) :: r, v, d => if vle p v then flagOf r v f else d
theorem flagOf_above : ∀ {l : List (Bool × Ver)} {v : Ver} {d : Bool}, (∀ p ∈ l.map (·.2), v < p) → flagOf l v d = d
  | [], _, _, _ => rfl
  | (f, p) :: r, v, d, h => by
    rw [flagOf, if_neg]
    intro z
    exact z (h p List.mem_cons_self)
theorem inn_cons (p : Pr) (s : Span) (v : Ver) : inn (p :: s) v = (holdsP p v || inn s v) := rfl
theorem b_inn : ∀ (l : List (Bool × Ver)) (v : Ver), Asc (l.map (·.2)) → inn (b0 l) v = flagOf l v false ∧ ∀ a, (∀ p ∈ l.map (·.2), a < p) → inn (b1 a l) v = (decide (vle a v) && flagOf l v true)
  | [], v, _ => ⟨rfl, fun a _ => by simp [b1, inn, holdsP, flagOf]⟩
  | (true, q) :: r, v, h => by
    obtain ⟨h1, h2⟩ := List.pairwise_cons.mp h
    obtain ⟨i0, i1⟩ := b_inn r v h2
    refine ⟨?_, fun a ha => ?_⟩
    · rw [b0, i1 q h1, flagOf]
      by_cases z : vle q v
      · simp [z]
      · simp [z]
    · rw [b1, i1 a fun p hp => ha p (List.mem_cons_of_mem _ hp), flagOf]
      by_cases z : vle q v
      · simp [z]
      · rw [if_neg z]
        have := vlt_of_not z
        rw [flagOf_above fun p hp => vlt_trans this (h1 p hp)]
  | (false, q) :: r, v, h => by
    obtain ⟨h1, h2⟩ := List.pairwise_cons.mp h
    obtain ⟨i0, i1⟩ := b_inn r v h2
    refine ⟨?_, fun a ha => ?_⟩
    · rw [b0, i0, flagOf]
      by_cases z : vle q v
      · simp [z]
      · rw [if_neg z]
        have := vlt_of_not z
        rw [flagOf_above fun p hp => vlt_trans this (h1 p hp)]
    · rw [b1, inn_cons, i0, flagOf]
      have haq := ha q List.mem_cons_self
      by_cases z : vle q v
      · have h3 : vle a v := vle_of_lt (vlt_of_lt_of_le haq z)
        have h4 : ¬ v < q := z
        simp [z, holdsP, h3, h4]
      · have h4 := vlt_of_not z
        rw [if_neg z, flagOf_above fun p hp => vlt_trans h4 (h1 p hp)]
        simp [holdsP, h4]
theorem flagged_snd (f : Ver → Bool) (ps : List Ver) : (flagged f ps).map (·.2) = ps := by
  unfold flagged
  rw [List.map_map]
  exact List.map_id ps
/-- what is so at the last point not above v is so at v -/
theorem flag_const {f : Ver → Bool} {v : Ver} {c : Bool} : ∀ {ps : List Ver} {d : Bool}, Asc ps → ((∃ p ∈ ps, vle p v) ∨ d = c) → (∀ p ∈ ps, vle p v → (∀ q ∈ ps, vle q v → vle q p) → f p = c) → flagOf (flagged f ps) v d = c
  | [], d, _, h, _ => by
    rcases h with ⟨p, hp, _⟩ | h
    · cases hp
    · exact h
  | p :: ps, d, ha, h, hf => by
    obtain ⟨h1, h2⟩ := List.pairwise_cons.mp ha
    show (if vle p v then flagOf (flagged f ps) v (f p) else d) = c
    by_cases z : vle p v
    · rw [if_pos z]
      refine flag_const h2 ?_ fun q hq zq hm => hf q (List.mem_cons_of_mem _ hq) zq fun r hr zr => ?_
      · by_cases e : ∃ q ∈ ps, vle q v
        · exact .inl e
        · refine .inr (hf p List.mem_cons_self z fun r hr zr => ?_)
          rcases List.mem_cons.mp hr with rfl | hr
          · exact vle_refl _
          · exact absurd ⟨r, hr, zr⟩ e
      · rcases List.mem_cons.mp hr with rfl | hr
        · exact vle_of_lt (h1 q hq)
        · exact hm r hr zr
    · rw [if_neg z]
      rcases h with ⟨q, hq, zq⟩ | h
      · rcases List.mem_cons.mp hq with rfl | hq
        · exact absurd zq z
        · exact absurd (vle_trans (vle_of_lt (h1 q hq)) zq) z
      · exact h
/-- between its ends a span's hold doesn't change -/
theorem inn_same {s : Span} {p v : Ver} (h : vle p v) (hm : ∀ e ∈ endsS s, vle e v → vle e p) : inn s p = inn s v := by
  have each : ∀ q ∈ s, holdsP q p = holdsP q v := by
    intro q hq
    have e1 : decide (vle q.1 p) = decide (vle q.1 v) := by
      refine decide_eq_decide.mpr ⟨fun z => vle_trans z h, fun z => hm q.1 (List.mem_flatMap.mpr ⟨q, hq, List.mem_cons_self⟩) z⟩
    unfold holdsP
    rw [e1]
    cases hq2 : q.2 with
    | none => rfl
    | some x =>
      have e2 : decide (p < x) = decide (v < x) := by
        refine decide_eq_decide.mpr ⟨fun z => ?_, fun z => vlt_of_le_of_lt h z⟩
        rcases vlt_tri v x with w | w | w
        · exact w
        · subst w
          exact absurd z (hm v (List.mem_flatMap.mpr ⟨q, hq, by rw [endsP, hq2]; simp⟩) (vle_refl v))
        · exact absurd z (hm x (List.mem_flatMap.mpr ⟨q, hq, by rw [endsP, hq2]; simp⟩) (vle_of_lt w))
      simp only [e2]
  unfold inn
  rw [Bool.eq_iff_iff, List.any_eq_true, List.any_eq_true]
  constructor
  · rintro ⟨q, hq, e⟩; exact ⟨q, hq, by rw [← each q hq]; exact e⟩
  · rintro ⟨q, hq, e⟩; exact ⟨q, hq, by rw [each q hq]; exact e⟩
/-- canonical spans that hold the same are the same -/
theorem canon_inn_low {s : Span} {p : Pr} {t : Span} (h : Canon s) (e : s = p :: t) : inn s p.1 = true := by
  subst e
  rw [inn_cons]
  have : holdsP p p.1 = true := by
    unfold holdsP
    cases q : p.2 with
    | none => simp [vle_refl]
    | some x =>
      have := h.2 p List.mem_cons_self x q
      simp [vle_refl, this]
  rw [this]
  rfl
theorem canon_tail {p : Pr} {t : Span} (h : Canon (p :: t)) : Canon t := ⟨(List.pairwise_cons.mp h.1).2, fun q hq => h.2 q (List.mem_cons_of_mem _ hq)⟩
theorem canon_above {p : Pr} {t : Span} (h : Canon (p :: t)) {v : Ver} (hv : inn t v = true) : ∃ x, p.2 = some x ∧ x < v := by
  unfold inn at hv
  rw [List.any_eq_true] at hv
  obtain ⟨q, hq, e⟩ := hv
  obtain ⟨x, e1, e2⟩ := (List.pairwise_cons.mp h.1).1 q hq
  refine ⟨x, e1, ?_⟩
  unfold holdsP at e
  rw [Bool.and_eq_true] at e
  exact vlt_of_lt_of_le e2 (of_decide_eq_true e.1)
theorem canon_low_le {p : Pr} {t : Span} (h : Canon (p :: t)) {v : Ver} (hv : inn (p :: t) v = true) : vle p.1 v := by
  rw [inn_cons, Bool.or_eq_true] at hv
  rcases hv with hv | hv
  · unfold holdsP at hv
    rw [Bool.and_eq_true] at hv
    exact of_decide_eq_true hv.1
  · obtain ⟨x, e1, e2⟩ := canon_above h hv
    exact vle_of_lt (vlt_trans (h.2 p List.mem_cons_self x e1) e2)
/-- at its own end a canonical span holds nothing -/
theorem canon_end {p : Pr} {t : Span} (h : Canon (p :: t)) {x : Ver} (e : p.2 = some x) : inn (p :: t) x = false := by
  cases q : inn (p :: t) x with
  | false => rfl
  | true =>
    rw [inn_cons, Bool.or_eq_true] at q
    rcases q with q | q
    · unfold holdsP at q
      rw [Bool.and_eq_true, e] at q
      exact absurd (of_decide_eq_true q.2) (vlt_irrefl x)
    · obtain ⟨y, e1, e2⟩ := canon_above h q
      rw [e] at e1
      cases e1
      exact absurd e2 (vlt_irrefl x)
theorem canon_in {p : Pr} {t : Span} {v : Ver} (h1 : vle p.1 v) (h2 : ∀ x, p.2 = some x → v < x) : inn (p :: t) v = true := by
  rw [inn_cons]
  have : holdsP p v = true := by
    unfold holdsP
    cases q : p.2 with
    | none => simp [h1]
    | some x => simp [h1, h2 x q]
  rw [this]
  rfl
theorem canon_ext : ∀ {s u : Span}, Canon s → Canon u → (∀ v, inn s v = inn u v) → s = u
  | [], [], _, _, _ => rfl
  | [], q :: u, _, hu, h => by
    have := canon_inn_low hu rfl
    rw [← h] at this
    cases this
  | p :: s, [], hs, _, h => by
    have := canon_inn_low hs rfl
    rw [h] at this
    cases this
  | p :: s, q :: u, hs, hu, h => by
    have e1 : p.1 = q.1 := by
      have a := canon_low_le hu (by rw [← h]; exact canon_inn_low hs rfl)
      have b := canon_low_le hs (by rw [h]; exact canon_inn_low hu rfl)
      exact vle_antisymm b a
    -- an end of one that lies below the other's end can't be
    have key : ∀ {p q : Pr} {s u : Span}, Canon (p :: s) → Canon (q :: u) → (∀ v, inn (p :: s) v = inn (q :: u) v) → p.1 = q.1 → ∀ x, p.2 = some x → ∀ y, q.2 = some y → ¬ x < y := by
      intro p q s u hs hu h e x hx y hy z
      have n := canon_end hs hx
      rw [h] at n
      have m := canon_in (p := q) (t := u) (v := x) (by rw [← e]; exact vle_of_lt (hs.2 p List.mem_cons_self x hx)) fun y' hy' => by rw [hy] at hy'; cases hy'; exact z
      rw [n] at m
      cases m
    have key2 : ∀ {p q : Pr} {s u : Span}, Canon (p :: s) → Canon (q :: u) → (∀ v, inn (p :: s) v = inn (q :: u) v) → p.1 = q.1 → ∀ x, p.2 = some x → q.2 ≠ none := by
      intro p q s u hs hu h e x hx z
      have n := canon_end hs hx
      rw [h] at n
      have m := canon_in (p := q) (t := u) (v := x) (by rw [← e]; exact vle_of_lt (hs.2 p List.mem_cons_self x hx)) fun y' hy' => by rw [z] at hy'; cases hy'
      rw [n] at m
      cases m
    have e2 : p.2 = q.2 := by
      cases hx : p.2 with
      | none =>
        cases hy : q.2 with
        | none => rfl
        | some y => exact absurd hx (key2 hu hs (fun v => (h v).symm) e1.symm y hy)
      | some x =>
        cases hy : q.2 with
        | none => exact absurd hy (key2 hs hu h e1 x hx)
        | some y =>
          have a := key hs hu h e1 x hx y hy
          have b := key hu hs (fun v => (h v).symm) e1.symm y hy x hx
          rcases vlt_tri x y with z | z | z
          · exact absurd z a
          · rw [z]
          · exact absurd z b
    have e : p = q := Prod.ext e1 e2
    subst e
    have e3 : s = u := by
      refine canon_ext (canon_tail hs) (canon_tail hu) fun v => ?_
      have hv := h v
      rw [inn_cons, inn_cons] at hv
      cases hp : holdsP p v with
      | false => rw [hp] at hv; simpa using hv
      | true =>
        -- where the first holds the rest doesn't
        have none_of : ∀ {t : Span}, Canon (p :: t) → inn t v = false := by
          intro t ht
          cases q : inn t v with
          | false => rfl
          | true =>
            obtain ⟨x, ex, lx⟩ := canon_above ht q
            unfold holdsP at hp
            rw [Bool.and_eq_true, ex] at hp
            exact absurd (of_decide_eq_true hp.2) (vlt_asymm lx)
        rw [none_of hs, none_of hu]
    rw [e3]
theorem mem_cuts {ss : List Span} {v : Ver} : v ∈ cuts ss ↔ v = first ∨ v ∈ ends ss := by unfold cuts; rw [mem_settle, List.mem_cons]
/-- all ends at or above the first version -/
def Up (ss : List Span) : Prop := ∀ e ∈ ends ss, vle first e
theorem inn_run {ss : List Span} {g : Ver → Bool} (hu : Up ss) (hg : ∀ p v, vle p v → (∀ e ∈ ends ss, vle e v → vle e p) → g p = g v) (v : Ver) : inn (spanOf (flagged g (cuts ss))) v = (decide (vle first v) && g v) := by
  have ha : Asc ((flagged g (cuts ss)).map (·.2)) := by rw [flagged_snd]; exact asc_settle _
  rw [spanOf_b, (b_inn _ v ha).1]
  by_cases hf : vle first v
  · rw [decide_eq_true hf, Bool.true_and]
    refine flag_const (asc_settle _) (.inl ⟨first, mem_cuts.mpr (.inl rfl), hf⟩) fun p hp hv hm => hg p v hv fun e he ev => hm e (mem_cuts.mpr (.inr he)) ev
  · rw [decide_eq_false hf, Bool.false_and]
    refine flagOf_above fun p hp => ?_
    rw [flagged_snd] at hp
    have hfv := vlt_of_not hf
    rcases mem_cuts.mp hp with rfl | hp
    · exact hfv
    · exact vlt_of_lt_of_le hfv (hu p hp)
theorem canon_run (g : Ver → Bool) (ss : List Span) : Canon (spanOf (flagged g (cuts ss))) := by
  rw [spanOf_b]
  exact (b_canon _ (by rw [flagged_snd]; exact asc_settle _)).1
theorem ends_one {s : Span} : ends [s] = endsS s := by unfold ends; simp
/-- nothing but the span -/
def butOne (s : Span) : Span := byFlags [s] [[]]
theorem nums_one (s : Span) (v : Ver) : nums [s] v = if inn s v then [0] else [] := by
  unfold nums numsFrom
  by_cases h : inn s v = true
  · simp [h, numsFrom]
  · simp [h, numsFrom]
theorem butOne_eq (s : Span) : butOne s = spanOf (flagged (fun p => !inn s p) (cuts [s])) := by
  unfold butOne byFlags
  congr 1
  congr 1
  funext p
  rw [nums_one]
  cases h : inn s p <;> simp
theorem inn_butOne {s : Span} (hu : Up [s]) (v : Ver) : inn (butOne s) v = (decide (vle first v) && !inn s v) := by
  rw [butOne_eq]
  refine inn_run hu (fun p v h hm => ?_) v
  rw [ends_one] at hm
  rw [inn_same h hm]
theorem up_run {g : Ver → Bool} {ss : List Span} (hu : Up ss) : Up [spanOf (flagged g (cuts ss))] := by
  intro e he
  rw [ends_one, spanOf_b] at he
  obtain ⟨p, hp, he⟩ := List.mem_flatMap.mp he
  obtain ⟨h1, h2⟩ := (b_lows _).1 p hp
  rw [flagged_snd] at h1 h2
  have : e ∈ cuts ss := by
    unfold endsP at he
    rcases List.mem_cons.mp he with rfl | he
    · exact h1
    · rw [Option.mem_toList] at he
      exact h2 e he
  rcases mem_cuts.mp this with rfl | h
  · exact vle_refl _
  · exact hu e h
theorem up_low {s : Span} (hu : Up [s]) {v : Ver} (h : inn s v = true) : vle first v := by
  unfold inn at h
  rw [List.any_eq_true] at h
  obtain ⟨p, hp, e⟩ := h
  unfold holdsP at e
  rw [Bool.and_eq_true] at e
  exact vle_trans (hu p.1 (by rw [ends_one]; exact List.mem_flatMap.mpr ⟨p, hp, List.mem_cons_self⟩)) (of_decide_eq_true e.1)
theorem butOne_butOne {s : Span} (hc : Canon s) (hu : Up [s]) : butOne (butOne s) = s := by
  have hu2 : Up [butOne s] := by rw [butOne_eq]; exact up_run hu
  refine canon_ext (by rw [butOne_eq (butOne s)]; exact canon_run _ _) hc fun v => ?_
  rw [inn_butOne hu2, inn_butOne hu]
  cases h : inn s v with
  | true =>
    have := up_low hu h
    simp [this]
  | false =>
    by_cases hf : vle first v
    · simp [hf]
    · simp [hf]
def goodP (p : Pr) : Bool := match p.2 with | none => true | some h => decide (p.1 < h)
def rangeOf (ps : Span) : Span := byFlags [ps.filter goodP] [[0]]
theorem inn_goods (ps : Span) (v : Ver) : inn (ps.filter goodP) v = inn ps v := by
  unfold inn
  rw [Bool.eq_iff_iff, List.any_eq_true, List.any_eq_true]
  constructor
  · rintro ⟨q, hq, e⟩; exact ⟨q, (List.mem_filter.mp hq).1, e⟩
  · rintro ⟨q, hq, e⟩
    refine ⟨q, List.mem_filter.mpr ⟨hq, ?_⟩, e⟩
    unfold holdsP at e
    rw [Bool.and_eq_true] at e
    unfold goodP
    cases h : q.2 with
    | none => rfl
    | some x =>
      rw [h] at e
      exact decide_eq_true (vlt_of_le_of_lt (of_decide_eq_true e.1) (of_decide_eq_true e.2))
theorem rangeOf_eq {ps : Span} (hu : Up [ps]) : rangeOf ps = spanOf (flagged (fun p => inn ps p) (cuts [ps])) := by
  have hg : Up [ps.filter goodP] := fun e he => hu e (by
    rw [ends_one] at he ⊢
    obtain ⟨p, hp, h⟩ := List.mem_flatMap.mp he
    exact List.mem_flatMap.mpr ⟨p, (List.mem_filter.mp hp).1, h⟩)
  have e : rangeOf ps = spanOf (flagged (fun p => inn ps p) (cuts [ps.filter goodP])) := by
    unfold rangeOf byFlags
    congr 1
    congr 1
    funext p
    rw [nums_one, inn_goods]
    cases h : inn ps p <;> simp
  rw [e]
  refine canon_ext (canon_run _ _) (canon_run _ _) fun v => ?_
  rw [inn_run hg (fun p v h hm => ?_) v, inn_run hu (fun p v h hm => ?_) v]
  · rw [ends_one] at hm
    exact inn_same h hm
  · rw [ends_one] at hm
    rw [← inn_goods ps p, ← inn_goods ps v]
    exact inn_same h hm
theorem b1_head (a : Ver) (l : List (Bool × Ver)) : ∃ h t, b1 a l = (a, h) :: t := by
  induction l with
  | nil => exact ⟨none, [], rfl⟩
  | cons q r ih =>
    obtain ⟨f, p⟩ := q
    cases f with
    | true => rw [b1]; exact ih
    | false => exact ⟨some p, b0 r, rfl⟩
theorem spanOf_head (f : Ver → Bool) : ∀ ps : List Ver, (spanOf (flagged f ps)).head?.map (·.1) = (ps.filter f).head?
  | [] => rfl
  | p :: ps => by
    have ih := spanOf_head f ps
    rw [spanOf_b] at ih ⊢
    show ((b0 ((f p, p) :: flagged f ps)).head?.map (·.1)) = _
    cases h : f p with
    | true =>
      rw [b0]
      obtain ⟨x, t, e⟩ := b1_head p (flagged f ps)
      rw [e, List.filter_cons, if_pos h]
      rfl
    | false =>
      rw [b0, List.filter_cons, if_neg (by rw [h]; exact Bool.false_ne_true)]
      exact ih
theorem nums_two (s u : Span) (v : Ver) : decide (nums [s, u] v ∈ [[0], [1]]) = (inn s v != inn u v) := by
  unfold nums numsFrom
  cases h1 : inn s v <;> cases h2 : inn u v <;> simp [h1, h2, numsFrom]
theorem parting_eq (s u : Span) : ((byFlags [s, u] [[0], [1]]).head?.map (·.1)) = ((cuts [s, u]).filter fun p => inn s p != inn u p).head? := by
  unfold byFlags
  rw [spanOf_head]
  congr 2
  funext p
  exact nums_two s u p
end NF

set_option Elab.async false
set_option linter.all false
set_option maxRecDepth 100000
set_option maxHeartbeats 2000000
namespace NF
open PySem PySem.Spec PyProof.Rows L2

/-- data of ints, truth values and None, n deep, no list longer than 1000 -/
def fin : Nat → PyData → Bool
  | _, .none => true
  | _, .bool _ => true
  | _, .int _ => true
  | n + 1, .list ds => decide (ds.length ≤ 1000) && ds.all (fin n)
  | n + 1, .tuple ds => decide (ds.length ≤ 1000) && ds.all (fin n)
  | _, _ => false
theorem fin_l {n : Nat} {ds : List PyData} : fin (n + 1) (.list ds) = true ↔ ds.length ≤ 1000 ∧ ∀ d ∈ ds, fin n d = true := by
  show (decide (ds.length ≤ 1000) && ds.all (fin n)) = true ↔ _
  rw [Bool.and_eq_true, decide_eq_true_eq, List.all_eq_true]
theorem fin_t {n : Nat} {ds : List PyData} : fin (n + 1) (.tuple ds) = true ↔ ds.length ≤ 1000 ∧ ∀ d ∈ ds, fin n d = true := by
  show (decide (ds.length ≤ 1000) && ds.all (fin n)) = true ↔ _
  rw [Bool.and_eq_true, decide_eq_true_eq, List.all_eq_true]
theorem fin_succ : ∀ {n : Nat} {d : PyData}, fin n d = true → fin (n + 1) d = true
  | _, .none, _ => rfl
  | _, .bool _, _ => rfl
  | _, .int _, _ => rfl
  | 0, .str _, h => nomatch h
  | 0, .list _, h => nomatch h
  | 0, .tuple _, h => nomatch h
  | 0, .dict _, h => nomatch h
  | _ + 1, .str _, h => nomatch h
  | _ + 1, .dict _, h => nomatch h
  | n + 1, .list ds, h => by
    obtain ⟨a, b⟩ := fin_l.mp h
    exact fin_l.mpr ⟨a, fun d hd => fin_succ (b d hd)⟩
  | n + 1, .tuple ds, h => by
    obtain ⟨a, b⟩ := fin_t.mp h
    exact fin_t.mpr ⟨a, fun d hd => fin_succ (b d hd)⟩
theorem fin_mono {n m : Nat} {d : PyData} (h : fin n d = true) (le : n ≤ m) : fin m d = true := by
  induction le with
  | refl => exact h
  | step _ ih => exact fin_succ ih
theorem canLayAll0_of : ∀ {ds : List PyData}, (∀ d ∈ ds, d.canLay0 = true) → PyData.canLayAll0 ds = true
  | [], _ => rfl
  | d :: ds, h => by
    show (d.canLay0 && PyData.canLayAll0 ds) = true
    rw [h d List.mem_cons_self, canLayAll0_of fun e he => h e (List.mem_cons_of_mem _ he)]
    rfl
theorem depthAll_le : ∀ {ds : List PyData} {n : Nat}, (∀ d ∈ ds, d.depth ≤ n) → PyData.depthAll ds ≤ n
  | [], n, _ => Nat.zero_le n
  | d :: ds, n, h => by
    have a := h d List.mem_cons_self
    have b := depthAll_le fun e he => h e (List.mem_cons_of_mem _ he)
    show max d.depth (PyData.depthAll ds) ≤ n
    omega
theorem fin_lay : ∀ (n : Nat) (d : PyData), fin n d = true → d.canLay0 = true ∧ d.depth ≤ n
  | _, .none, _ => ⟨rfl, Nat.zero_le _⟩
  | _, .bool _, _ => ⟨rfl, Nat.zero_le _⟩
  | _, .int _, _ => ⟨rfl, Nat.zero_le _⟩
  | 0, .str _, h => nomatch h
  | 0, .list _, h => nomatch h
  | 0, .tuple _, h => nomatch h
  | 0, .dict _, h => nomatch h
  | _ + 1, .str _, h => nomatch h
  | _ + 1, .dict _, h => nomatch h
  | n + 1, .list ds, h => by
    obtain ⟨a, b⟩ := fin_l.mp h
    refine ⟨canLayAll0_of fun d hd => (fin_lay n d (b d hd)).1, ?_⟩
    have := depthAll_le fun d hd => (fin_lay n d (b d hd)).2
    show (PyData.list ds).depth ≤ n + 1
    rw [PyData.depth]
    omega
  | n + 1, .tuple ds, h => by
    obtain ⟨a, b⟩ := fin_t.mp h
    refine ⟨canLayAll0_of fun d hd => (fin_lay n d (b d hd)).1, ?_⟩
    have := depthAll_le fun d hd => (fin_lay n d (b d hd)).2
    show (PyData.tuple ds).depth ≤ n + 1
    rw [PyData.depth]
    omega
theorem fin_shaped {n : Nat} {d : PyData} (h : fin n d = true) (le : n ≤ 64 := by decide) : SeqAt.shaped d = true := by
  obtain ⟨a, b⟩ := fin_lay n d h
  unfold SeqAt.shaped
  rw [a, decide_eq_true (show d.depth ≤ 64 by omega)]
  rfl
mutual
def tupM : PyData → PyData
  | .list ds => .tuple (tupMs ds)
  | .tuple ds => .tuple (tupMs ds)
  | d => d
def tupMs : List PyData → List PyData
  | [] => []
  | d :: ds => tupM d :: tupMs ds
end
mutual
def lisM : PyData → PyData
  | .list ds => .list (lisMs ds)
  | .tuple ds => .list (lisMs ds)
  | d => d
def lisMs : List PyData → List PyData
  | [] => []
  | d :: ds => lisM d :: lisMs ds
end
theorem tupMs_map : ∀ ds : List PyData, tupMs ds = ds.map tupM
  | [] => rfl
  | d :: ds => by rw [tupMs, tupMs_map ds]; rfl
theorem lisMs_map : ∀ ds : List PyData, lisMs ds = ds.map lisM
  | [] => rfl
  | d :: ds => by rw [lisMs, lisMs_map ds]; rfl
mutual
theorem tupM_noL : ∀ d : PyData, noL d = true → tupM d = d
  | .none, _ => rfl
  | .bool _, _ => rfl
  | .int _, _ => rfl
  | .str _, _ => rfl
  | .dict _, h => nomatch h
  | .list _, h => nomatch h
  | .tuple ds, h => by rw [tupM, tupMs_noL ds h]
theorem tupMs_noL : ∀ ds : List PyData, noLs ds = true → tupMs ds = ds
  | [], _ => rfl
  | d :: ds, h => by
    have h' : (noL d && noLs ds) = true := h
    rw [Bool.and_eq_true] at h'
    rw [tupMs, tupM_noL d h'.1, tupMs_noL ds h'.2]
end
mutual
theorem tupM_lisM : ∀ d : PyData, tupM (lisM d) = tupM d
  | .none => rfl
  | .bool _ => rfl
  | .int _ => rfl
  | .str _ => rfl
  | .dict _ => rfl
  | .list ds => by rw [lisM, tupM, tupM, tupMs_lisM ds]
  | .tuple ds => by rw [lisM, tupM, tupM, tupMs_lisM ds]
theorem tupMs_lisM : ∀ ds : List PyData, tupMs (lisMs ds) = tupMs ds
  | [] => rfl
  | d :: ds => by rw [lisMs, tupMs, tupMs, tupM_lisM d, tupMs_lisM ds]
end
theorem fin_lisM : ∀ (n : Nat) (d : PyData), fin n d = true → fin n (lisM d) = true
  | _, .none, h => h
  | _, .bool _, h => h
  | _, .int _, h => h
  | 0, .str _, h => nomatch h
  | 0, .list _, h => nomatch h
  | 0, .tuple _, h => nomatch h
  | 0, .dict _, h => nomatch h
  | _ + 1, .str _, h => nomatch h
  | _ + 1, .dict _, h => nomatch h
  | n + 1, .list ds, h => by
    obtain ⟨a, b⟩ := fin_l.mp h
    rw [lisM, lisMs_map]
    refine fin_l.mpr ⟨by rw [List.length_map]; exact a, fun d hd => ?_⟩
    obtain ⟨e, he, rfl⟩ := List.mem_map.mp hd
    exact fin_lisM n e (b e he)
  | n + 1, .tuple ds, h => by
    obtain ⟨a, b⟩ := fin_t.mp h
    rw [lisM, lisMs_map]
    refine fin_l.mpr ⟨by rw [List.length_map]; exact a, fun d hd => ?_⟩
    obtain ⟨e, he, rfl⟩ := List.mem_map.mp hd
    exact fin_lisM n e (b e he)
theorem fin_tupM : ∀ (n : Nat) (d : PyData), fin n d = true → fin n (tupM d) = true
  | _, .none, h => h
  | _, .bool _, h => h
  | _, .int _, h => h
  | 0, .str _, h => nomatch h
  | 0, .list _, h => nomatch h
  | 0, .tuple _, h => nomatch h
  | 0, .dict _, h => nomatch h
  | _ + 1, .str _, h => nomatch h
  | _ + 1, .dict _, h => nomatch h
  | n + 1, .list ds, h => by
    obtain ⟨a, b⟩ := fin_l.mp h
    rw [tupM, tupMs_map]
    refine fin_t.mpr ⟨by rw [List.length_map]; exact a, fun d hd => ?_⟩
    obtain ⟨e, he, rfl⟩ := List.mem_map.mp hd
    exact fin_tupM n e (b e he)
  | n + 1, .tuple ds, h => by
    obtain ⟨a, b⟩ := fin_t.mp h
    rw [tupM, tupMs_map]
    refine fin_t.mpr ⟨by rw [List.length_map]; exact a, fun d hd => ?_⟩
    obtain ⟨e, he, rfl⟩ := List.mem_map.mp hd
    exact fin_tupM n e (b e he)

def encO : Option Ver → PyData
  | none => .none
  | some v => tupI v
def encP (p : Pr) : PyData := .tuple [tupI p.1, encO p.2]
def encPs (s : Span) : List PyData := s.map encP
def encS (s : Span) : PyData := .tuple (encPs s)
def encSs (ss : List Span) : PyData := .tuple (ss.map encS)
def encG (g : Gr) : PyData := .tuple [tupI g.1, encO g.2.1, tupI g.2.2]
def encRs (rows : List Row) : PyData := .tuple (rows.map tupI)
theorem noL_ints : ∀ ns : List Int, noLs (ns.map PyData.int) = true
  | [] => rfl
  | n :: ns => noL_ints ns
theorem noL_tupI (ns : List Int) : noL (tupI ns) = true := noL_ints ns
theorem noL_encO (o : Option Ver) : noL (encO o) = true := by
  cases o with
  | none => rfl
  | some v => exact noL_tupI v
theorem noLs_cons {d : PyData} {ds : List PyData} (h : noL d = true) (t : noLs ds = true) : noLs (d :: ds) = true := by
  show (noL d && noLs ds) = true
  rw [h, t]
  rfl
theorem noL_encP (p : Pr) : noL (encP p) = true := noLs_cons (noL_tupI _) (noLs_cons (noL_encO _) rfl)
theorem noL_encPs (s : Span) : noLs (encPs s) = true := noLs_all fun d hd => by
  obtain ⟨p, _, rfl⟩ := List.mem_map.mp hd
  exact noL_encP p
theorem noL_encS (s : Span) : noL (encS s) = true := noL_encPs s
theorem noL_encSs (ss : List Span) : noL (encSs ss) = true := noLs_all fun d hd => by
  obtain ⟨p, _, rfl⟩ := List.mem_map.mp hd
  exact noL_encS p
theorem noL_encG (g : Gr) : noL (encG g) = true := noLs_cons (noL_tupI _) (noLs_cons (noL_encO _) (noLs_cons (noL_tupI _) rfl))
theorem noL_encRs (rows : List Row) : noL (encRs rows) = true := noLs_all fun d hd => by
  obtain ⟨p, _, rfl⟩ := List.mem_map.mp hd
  exact noL_tupI p
theorem fin_ints (ns : List Int) : ∀ d ∈ ns.map PyData.int, fin 0 d = true := fun d hd => by
  obtain ⟨n, _, rfl⟩ := List.mem_map.mp hd
  rfl
theorem fin_tupI {ns : List Int} (h : ns.length ≤ 1000) : fin 1 (tupI ns) = true := fin_t.mpr ⟨by rw [List.length_map]; exact h, fin_ints ns⟩
theorem fin_encO {o : Option Ver} (h : ∀ v, o = some v → v.length ≤ 1000) : fin 1 (encO o) = true := by
  cases o with
  | none => rfl
  | some v => exact fin_tupI (h v rfl)
/-- versions of a good length -/
def VOk (v : Ver) : Prop := v ≠ [] ∧ v.length ≤ 1000
def POk (p : Pr) : Prop := ∀ v ∈ endsP p, VOk v
theorem POk.lo {p : Pr} (h : POk p) : VOk p.1 := h _ List.mem_cons_self
theorem POk.hi {p : Pr} (h : POk p) {v : Ver} (e : p.2 = some v) : VOk v := h v (by unfold endsP; rw [e]; simp)
theorem fin_encP {p : Pr} (h : POk p) : fin 2 (encP p) = true := fin_t.mpr ⟨Nat.le_trans (Nat.le_refl 2) (by decide), fun d hd => by
  rcases List.mem_cons.mp hd with rfl | hd
  · exact fin_tupI h.lo.2
  · rw [List.mem_singleton.mp hd]
    exact fin_encO fun v e => (h.hi e).2⟩
theorem ends_le : ∀ s : Span, s.length ≤ (endsS s).length
  | [] => Nat.le_refl _
  | p :: s => by
    have := ends_le s
    unfold endsS at this ⊢
    rw [List.flatMap_cons, List.length_append, List.length_cons]
    have : 1 ≤ (endsP p).length := by unfold endsP; simp
    omega
/-- spans as they may be: their ends good, not too many -/
structure SsOk (ss : List Span) : Prop where
  ver : ∀ v ∈ ends ss, VOk v
  few : (ends ss).length ≤ 62
  num : ss.length ≤ 62
theorem SsOk.mem {ss : List Span} (h : SsOk ss) {s : Span} (hs : s ∈ ss) : ∀ v ∈ endsS s, VOk v := fun v hv => h.ver v (List.mem_flatMap.mpr ⟨s, hs, hv⟩)
theorem SsOk.pok {ss : List Span} (h : SsOk ss) {s : Span} (hs : s ∈ ss) {p : Pr} (hp : p ∈ s) : POk p := fun v hv => h.mem hs v (List.mem_flatMap.mpr ⟨p, hp, hv⟩)
theorem ends_len {ss : List Span} {s : Span} (hs : s ∈ ss) : (endsS s).length ≤ (ends ss).length := by
  induction ss with
  | nil => cases hs
  | cons t ss ih =>
    have e : ends (t :: ss) = endsS t ++ ends ss := by unfold ends; rw [List.flatMap_cons]
    rw [e, List.length_append]
    rcases List.mem_cons.mp hs with rfl | hs
    · omega
    · have := ih hs; omega
theorem SsOk.len {ss : List Span} (h : SsOk ss) {s : Span} (hs : s ∈ ss) : s.length ≤ 62 := Nat.le_trans (Nat.le_trans (ends_le s) (ends_len hs)) h.few
theorem fin_encS {s : Span} (h : ∀ p ∈ s, POk p) (hl : s.length ≤ 1000) : fin 3 (encS s) = true := fin_t.mpr ⟨by unfold encPs; rw [List.length_map]; exact hl, fun d hd => by
  obtain ⟨p, hp, rfl⟩ := List.mem_map.mp hd
  exact fin_encP (h p hp)⟩
theorem fin_encSs {ss : List Span} (h : SsOk ss) : fin 4 (encSs ss) = true := fin_t.mpr ⟨by rw [List.length_map]; exact Nat.le_trans h.num (by decide), fun d hd => by
  obtain ⟨s, hs, rfl⟩ := List.mem_map.mp hd
  exact fin_encS (fun p hp => h.pok hs hp) (Nat.le_trans (h.len hs) (by decide))⟩
theorem lexLt_eq : ∀ a b : Ver, HT.lexLt a b = decide (a < b)
  | [], [] => rfl
  | [], y :: ys => (decide_eq_true (List.nil_lt_cons _ _)).symm
  | x :: xs, [] => (decide_eq_false (List.not_lt_nil _)).symm
  | x :: xs, y :: ys => by
    rw [HT.lexLt_cons, lexLt_eq xs ys]
    by_cases h : x = y
    · rw [if_pos h]
      refine decide_eq_decide.mpr ?_
      rw [List.cons_lt_cons_iff]
      constructor
      · exact fun z => .inr ⟨h, z⟩
      · rintro (z | z)
        · omega
        · exact z.2
    · rw [if_neg h]
      refine decide_eq_decide.mpr ?_
      rw [List.cons_lt_cons_iff]
      constructor
      · exact fun z => .inl z
      · rintro (z | z)
        · exact z
        · exact absurd z.1 h
theorem lexLeI_eq : ∀ a b : Ver, lexLeI a b = decide (vle a b)
  | [], ms => (decide_eq_true (List.not_lt_nil ms)).symm
  | x :: xs, [] => (decide_eq_false (fun z => z (List.nil_lt_cons _ _))).symm
  | x :: xs, y :: ys => by
    show (if x = y then lexLeI xs ys else decide (x ≤ y)) = _
    rw [lexLeI_eq xs ys]
    by_cases h : x = y
    · rw [if_pos h]
      refine decide_eq_decide.mpr ?_
      unfold vle
      rw [List.cons_lt_cons_iff]
      constructor
      · rintro z (w | w)
        · omega
        · exact z w.2
      · exact fun z w => z (.inr ⟨h.symm, w⟩)
    · rw [if_neg h]
      refine decide_eq_decide.mpr ?_
      unfold vle
      rw [List.cons_lt_cons_iff]
      constructor
      · rintro z (w | w)
        · omega
        · exact h w.1.symm
      · intro z
        by_cases w : x ≤ y
        · exact w
        · exact absurd (.inl (by omega)) z
theorem eqv_ints : ∀ a b : List Int, PyData.eqvAll (a.map .int) (b.map .int) = decide (a = b)
  | [], [] => rfl
  | [], _ :: _ => rfl
  | _ :: _, [] => rfl
  | x :: xs, y :: ys => by
    show ((x == y) && PyData.eqvAll (xs.map .int) (ys.map .int)) = _
    rw [eqv_ints xs ys]
    by_cases h : x = y
    · simp [h]
    · simp [h]
theorem eqv_tupI (a b : List Int) : PyData.eqv (tupI a) (tupI b) = decide (a = b) := eqv_ints a b
theorem eqv_encO (o : Option Ver) (v : Ver) : PyData.eqv (encO o) (tupI v) = decide (o = some v) := by
  cases o with
  | none => rfl
  | some u =>
    show PyData.eqv (tupI u) (tupI v) = _
    rw [eqv_tupI]
    simp
theorem any_rows (rows : List Row) (k : Row) : ((rows.map tupI).any fun z => PyData.eqv z (tupI k)) = decide (k ∈ rows) := by
  rw [Bool.eq_iff_iff, List.any_eq_true, decide_eq_true_eq]
  constructor
  · rintro ⟨z, hz, e⟩
    obtain ⟨r, hr, rfl⟩ := List.mem_map.mp hz
    rw [eqv_tupI] at e
    rw [← of_decide_eq_true e]
    exact hr
  · intro h
    exact ⟨tupI k, List.mem_map.mpr ⟨k, h, rfl⟩, by rw [eqv_tupI]; exact decide_eq_true rfl⟩
theorem eqv_nilL (ds : List PyData) : PyData.eqv (.list ds) (.list []) = ds.isEmpty := by cases ds <;> rfl
theorem eqv_nilT (ds : List PyData) : PyData.eqv (.tuple ds) (.tuple []) = ds.isEmpty := by cases ds <;> rfl
theorem isNon_encO (o : Option Ver) : isNon (encO o) = o.isNone := by cases o <;> rfl
end NF

set_option Elab.async false
set_option linter.all false
set_option maxRecDepth 100000
namespace NF
open PySem PySem.Spec PyProof.Rows L2
def topS (i : Nat) : Stmt := PySem.Challenge.pw_newestfit_k03_whole_ranges_of_one_anothe.main.body.getD i (.Pass ⟨0, 0, 0, 0⟩)
abbrev s_tupled : Stmt := topS 1
abbrev n_tupled : List Str := ["thing", "part"]
theorem c_tupled : FnScope n_tupled ["thing"] (defScope s_tupled) := ⟨rfl, rfl, rfl, by decide +kernel, rfl, by decide +kernel, by decide +kernel⟩
abbrev s_is_number : Stmt := topS 2
abbrev n_is_number : List Str := ["thing"]
theorem c_is_number : FnScope n_is_number ["thing"] (defScope s_is_number) := ⟨rfl, rfl, rfl, by decide +kernel, rfl, by decide +kernel, by decide +kernel⟩
abbrev s_is_tuple_of : Stmt := topS 3
abbrev n_is_tuple_of : List Str := ["thing", "size"]
theorem c_is_tuple_of : FnScope n_is_tuple_of ["thing", "size"] (defScope s_is_tuple_of) := ⟨rfl, rfl, rfl, by decide +kernel, rfl, by decide +kernel, by decide +kernel⟩
abbrev s_is_version : Stmt := topS 6
abbrev n_is_version : List Str := ["thing", "part"]
theorem c_is_version : FnScope n_is_version ["thing"] (defScope s_is_version) := ⟨rfl, rfl, rfl, by decide +kernel, rfl, by decide +kernel, by decide +kernel⟩
abbrev s_is_span_pair : Stmt := topS 9
abbrev n_is_span_pair : List Str := ["thing"]
theorem c_is_span_pair : FnScope n_is_span_pair ["thing"] (defScope s_is_span_pair) := ⟨rfl, rfl, rfl, by decide +kernel, rfl, by decide +kernel, by decide +kernel⟩
abbrev s_is_range : Stmt := topS 10
abbrev n_is_range : List Str := ["thing", "pair", "near", "far"]
theorem c_is_range : FnScope n_is_range ["thing"] (defScope s_is_range) := ⟨rfl, rfl, rfl, by decide +kernel, rfl, by decide +kernel, by decide +kernel⟩
abbrev s_pair_holds : Stmt := topS 11
abbrev n_pair_holds : List Str := ["pair", "version"]
theorem c_pair_holds : FnScope n_pair_holds ["pair", "version"] (defScope s_pair_holds) := ⟨rfl, rfl, rfl, by decide +kernel, rfl, by decide +kernel, by decide +kernel⟩
abbrev s_span_holds : Stmt := topS 12
abbrev n_span_holds : List Str := ["span", "version", "pair"]
theorem c_span_holds : FnScope n_span_holds ["span", "version"] (defScope s_span_holds) := ⟨rfl, rfl, rfl, by decide +kernel, rfl, by decide +kernel, by decide +kernel⟩
abbrev s_cuts_in : Stmt := topS 13
abbrev n_cuts_in : List Str := ["spans", "found", "span", "low", "high"]
theorem c_cuts_in : FnScope n_cuts_in ["spans"] (defScope s_cuts_in) := ⟨rfl, rfl, rfl, by decide +kernel, rfl, by decide +kernel, by decide +kernel⟩
abbrev s_range_cuts : Stmt := topS 14
abbrev n_range_cuts : List Str := ["spans"]
theorem c_range_cuts : FnScope n_range_cuts ["spans"] (defScope s_range_cuts) := ⟨rfl, rfl, rfl, by decide +kernel, rfl, by decide +kernel, by decide +kernel⟩
abbrev s_stretches : Stmt := topS 15
abbrev n_stretches : List Str := ["cuts"]
theorem c_stretches : FnScope n_stretches ["cuts"] (defScope s_stretches) := ⟨rfl, rfl, rfl, by decide +kernel, rfl, by decide +kernel, by decide +kernel⟩
abbrev s_spans_holding : Stmt := topS 16
abbrev n_spans_holding : List Str := ["spans", "version", "number", "span"]
theorem c_spans_holding : FnScope n_spans_holding ["spans", "version"] (defScope s_spans_holding) := ⟨rfl, rfl, rfl, by decide +kernel, rfl, by decide +kernel, by decide +kernel⟩
abbrev s_grains_in : Stmt := topS 17
abbrev n_grains_in : List Str := ["spans", "found", "low", "high", "numbers"]
theorem c_grains_in : FnScope n_grains_in ["spans"] (defScope s_grains_in) := ⟨rfl, rfl, rfl, by decide +kernel, rfl, by decide +kernel, by decide +kernel⟩
abbrev s_range_grains : Stmt := topS 18
abbrev n_range_grains : List Str := ["spans"]
theorem c_range_grains : FnScope n_range_grains ["spans"] (defScope s_range_grains) := ⟨rfl, rfl, rfl, by decide +kernel, rfl, by decide +kernel, by decide +kernel⟩
abbrev s_pairs_joined : Stmt := topS 19
abbrev n_pairs_joined : List Str := ["pairs", "found", "low", "high"]
theorem c_pairs_joined : FnScope n_pairs_joined ["pairs"] (defScope s_pairs_joined) := ⟨rfl, rfl, rfl, by decide +kernel, rfl, by decide +kernel, by decide +kernel⟩
abbrev s_by_rows : Stmt := topS 20
abbrev n_by_rows : List Str := ["spans", "rows", "wanted", "low", "high", "numbers"]
theorem c_by_rows : FnScope n_by_rows ["spans", "rows"] (defScope s_by_rows) := ⟨rfl, rfl, rfl, by decide +kernel, rfl, by decide +kernel, by decide +kernel⟩
abbrev s_range_of : Stmt := topS 21
abbrev n_range_of : List Str := ["pairs", "goods", "pair"]
theorem c_range_of : FnScope n_range_of ["pairs"] (defScope s_range_of) := ⟨rfl, rfl, rfl, by decide +kernel, rfl, by decide +kernel, by decide +kernel⟩
abbrev s_both_of : Stmt := topS 22
abbrev n_both_of : List Str := ["one", "other"]
theorem c_both_of : FnScope n_both_of ["one", "other"] (defScope s_both_of) := ⟨rfl, rfl, rfl, by decide +kernel, rfl, by decide +kernel, by decide +kernel⟩
abbrev s_either_of : Stmt := topS 23
abbrev n_either_of : List Str := ["one", "other"]
theorem c_either_of : FnScope n_either_of ["one", "other"] (defScope s_either_of) := ⟨rfl, rfl, rfl, by decide +kernel, rfl, by decide +kernel, by decide +kernel⟩
abbrev s_all_but : Stmt := topS 24
abbrev n_all_but : List Str := ["span"]
theorem c_all_but : FnScope n_all_but ["span"] (defScope s_all_but) := ⟨rfl, rfl, rfl, by decide +kernel, rfl, by decide +kernel, by decide +kernel⟩
abbrev s_taken_out : Stmt := topS 25
abbrev n_taken_out : List Str := ["one", "other"]
theorem c_taken_out : FnScope n_taken_out ["one", "other"] (defScope s_taken_out) := ⟨rfl, rfl, rfl, by decide +kernel, rfl, by decide +kernel, by decide +kernel⟩
abbrev s_is_inside : Stmt := topS 26
abbrev n_is_inside : List Str := ["one", "other"]
theorem c_is_inside : FnScope n_is_inside ["one", "other"] (defScope s_is_inside) := ⟨rfl, rfl, rfl, by decide +kernel, rfl, by decide +kernel, by decide +kernel⟩
abbrev s_are_apart : Stmt := topS 27
abbrev n_are_apart : List Str := ["one", "other"]
theorem c_are_apart : FnScope n_are_apart ["one", "other"] (defScope s_are_apart) := ⟨rfl, rfl, rfl, by decide +kernel, rfl, by decide +kernel, by decide +kernel⟩
abbrev s_parting_version : Stmt := topS 28
abbrev n_parting_version : List Str := ["one", "other", "unlike"]
theorem c_parting_version : FnScope n_parting_version ["one", "other"] (defScope s_parting_version) := ⟨rfl, rfl, rfl, by decide +kernel, rfl, by decide +kernel, by decide +kernel⟩
abbrev s_law_box : Stmt := topS 30
abbrev n_law_box : List Str := ["_law_script", "_law_k", "_law_cell_so"]
theorem c_law_box : FnScope n_law_box ["_law_script", "_law_k"] (defScope s_law_box) := ⟨rfl, rfl, rfl, by decide +kernel, rfl, by decide +kernel, by decide +kernel⟩
abbrev s_law_take : Stmt := topS 31
abbrev n_law_take : List Str := ["_law_tin", "_law_below_so", "_law_drawn", "_law_once_so", "_law_wide_so", "_law_twice_so"]
theorem c_law_take : FnScope n_law_take ["_law_tin", "_law_below_so"] (defScope s_law_take) := ⟨rfl, rfl, rfl, by decide +kernel, rfl, by decide +kernel, by decide +kernel⟩
abbrev s_law_cells : Stmt := topS 32
abbrev n_law_cells : List Str := ["_law_script", "_law_most_so", "_law_cells_so", "_law_k", "_law_cell_so", "_law_at_so"]
theorem c_law_cells : FnScope n_law_cells ["_law_script", "_law_most_so"] (defScope s_law_cells) := ⟨rfl, rfl, rfl, by decide +kernel, rfl, by decide +kernel, by decide +kernel⟩
abbrev s_law_of : Stmt := topS 33
abbrev n_law_of : List Str := ["_law_tin", "_law_goods_so"]
theorem c_law_of : FnScope n_law_of ["_law_tin", "_law_goods_so"] (defScope s_law_of) := ⟨rfl, rfl, rfl, by decide +kernel, rfl, by decide +kernel, by decide +kernel⟩
abbrev s_law_pick : Stmt := topS 34
abbrev n_law_pick : List Str := ["_law_tin", "_law_goods_so", "_law_count_so", "_law_pool_so", "_law_found", "_law_lap"]
theorem c_law_pick : FnScope n_law_pick ["_law_tin", "_law_goods_so", "_law_count_so"] (defScope s_law_pick) := ⟨rfl, rfl, rfl, by decide +kernel, rfl, by decide +kernel, by decide +kernel⟩
abbrev s_law_lists : Stmt := topS 35
abbrev n_law_lists : List Str := ["_law_matter", "_law_bit"]
theorem c_law_lists : FnScope n_law_lists ["_law_matter"] (defScope s_law_lists) := ⟨rfl, rfl, rfl, by decide +kernel, rfl, by decide +kernel, by decide +kernel⟩
abbrev s_law_same : Stmt := topS 36
abbrev n_law_same : List Str := ["_law_got", "_law_due", "_law_mine", "_law_its"]
theorem c_law_same : FnScope n_law_same ["_law_got", "_law_due"] (defScope s_law_same) := ⟨rfl, rfl, rfl, by decide +kernel, rfl, by decide +kernel, by decide +kernel⟩
abbrev s_law_subsets : Stmt := topS 37
abbrev n_law_subsets : List Str := ["_law_things_so", "_law_found", "_law_thing_so", "_law_own"]
theorem c_law_subsets : FnScope n_law_subsets ["_law_things_so"] (defScope s_law_subsets) := ⟨rfl, rfl, rfl, by decide +kernel, rfl, by decide +kernel, by decide +kernel⟩
abbrev s_law_is_number : Stmt := topS 38
abbrev n_law_is_number : List Str := ["_law_own"]
theorem c_law_is_number : FnScope n_law_is_number ["_law_own"] (defScope s_law_is_number) := ⟨rfl, rfl, rfl, by decide +kernel, rfl, by decide +kernel, by decide +kernel⟩
abbrev s_law_settled : Stmt := topS 39
abbrev n_law_settled : List Str := ["_law_rows_so"]
theorem c_law_settled : FnScope n_law_settled ["_law_rows_so"] (defScope s_law_settled) := ⟨rfl, rfl, rfl, by decide +kernel, rfl, by decide +kernel, by decide +kernel⟩
abbrev s_law_next : Stmt := topS 40
abbrev n_law_next : List Str := ["_law_version_so", "_law_first_so", "_law_middle_so", "_law_last_so", "_law_early_so"]
theorem c_law_next : FnScope n_law_next ["_law_version_so"] (defScope s_law_next) := ⟨rfl, rfl, rfl, by decide +kernel, rfl, by decide +kernel, by decide +kernel⟩
abbrev s_law_every : Stmt := topS 41
abbrev n_law_every : List Str := []
theorem c_law_every : FnScope n_law_every [] (defScope s_law_every) := ⟨rfl, rfl, rfl, by decide +kernel, rfl, by decide +kernel, by decide +kernel⟩
abbrev s_law_held : Stmt := topS 42
abbrev n_law_held : List Str := ["_law_span_so", "_law_version_so", "_law_low_so", "_law_high_so"]
theorem c_law_held : FnScope n_law_held ["_law_span_so", "_law_version_so"] (defScope s_law_held) := ⟨rfl, rfl, rfl, by decide +kernel, rfl, by decide +kernel, by decide +kernel⟩
abbrev s_law_span_of : Stmt := topS 43
abbrev n_law_span_of : List Str := ["_law_flags_so", "_law_points_so", "_law_found", "_law_last_so", "_law_flag_so", "_law_point_so"]
theorem c_law_span_of : FnScope n_law_span_of ["_law_flags_so", "_law_points_so"] (defScope s_law_span_of) := ⟨rfl, rfl, rfl, by decide +kernel, rfl, by decide +kernel, by decide +kernel⟩
abbrev s_law_points : Stmt := topS 44
abbrev n_law_points : List Str := ["_law_spans_so", "_law_found", "_law_span_so", "_law_low_so", "_law_high_so"]
theorem c_law_points : FnScope n_law_points ["_law_spans_so"] (defScope s_law_points) := ⟨rfl, rfl, rfl, by decide +kernel, rfl, by decide +kernel, by decide +kernel⟩
abbrev s_law_is_version : Stmt := topS 45
abbrev n_law_is_version : List Str := ["_law_own", "_law_bit"]
theorem c_law_is_version : FnScope n_law_is_version ["_law_own"] (defScope s_law_is_version) := ⟨rfl, rfl, rfl, by decide +kernel, rfl, by decide +kernel, by decide +kernel⟩
abbrev s_law_is_span : Stmt := topS 46
abbrev n_law_is_span : List Str := ["_law_own", "_law_bit", "_law_near_so", "_law_far_so"]
theorem c_law_is_span : FnScope n_law_is_span ["_law_own"] (defScope s_law_is_span) := ⟨rfl, rfl, rfl, by decide +kernel, rfl, by decide +kernel, by decide +kernel⟩
abbrev s_law_line : Stmt := topS 47
abbrev n_law_line : List Str := ["_law_found"]
theorem c_law_line : FnScope n_law_line [] (defScope s_law_line) := ⟨rfl, rfl, rfl, by decide +kernel, rfl, by decide +kernel, by decide +kernel⟩
abbrev s_law_drawn_span : Stmt := topS 48
abbrev n_law_drawn_span : List Str := ["_law_tin", "_law_points_so", "_law_own"]
theorem c_law_drawn_span : FnScope n_law_drawn_span ["_law_tin"] (defScope s_law_drawn_span) := ⟨rfl, rfl, rfl, by decide +kernel, rfl, by decide +kernel, by decide +kernel⟩
abbrev s_law_by_flags : Stmt := topS 49
abbrev n_law_by_flags : List Str := ["_law_spans_so", "_law_wanted_so", "_law_points_so", "_law_own"]
theorem c_law_by_flags : FnScope n_law_by_flags ["_law_spans_so", "_law_wanted_so"] (defScope s_law_by_flags) := ⟨rfl, rfl, rfl, by decide +kernel, rfl, by decide +kernel, by decide +kernel⟩
abbrev s_law_numbers : Stmt := topS 50
abbrev n_law_numbers : List Str := ["_law_spans_so", "_law_version_so", "_law_k", "_law_own"]
theorem c_law_numbers : FnScope n_law_numbers ["_law_spans_so", "_law_version_so"] (defScope s_law_numbers) := ⟨rfl, rfl, rfl, by decide +kernel, rfl, by decide +kernel, by decide +kernel⟩
abbrev s_law_grains : Stmt := topS 51
abbrev n_law_grains : List Str := ["_law_spans_so", "_law_found", "_law_point_so", "_law_own"]
theorem c_law_grains : FnScope n_law_grains ["_law_spans_so"] (defScope s_law_grains) := ⟨rfl, rfl, rfl, by decide +kernel, rfl, by decide +kernel, by decide +kernel⟩
abbrev s_law_bent_span : Stmt := topS 52
abbrev n_law_bent_span : List Str := ["_law_tin", "_law_span_so", "_law_kind_so", "_law_found", "_law_k", "_law_low_so", "_law_middle_so"]
theorem c_law_bent_span : FnScope n_law_bent_span ["_law_tin", "_law_span_so"] (defScope s_law_bent_span) := ⟨rfl, rfl, rfl, by decide +kernel, rfl, by decide +kernel, by decide +kernel⟩
abbrev s_law_drawn_pairs : Stmt := topS 53
abbrev n_law_drawn_pairs : List Str := ["_law_tin", "_law_found", "_law_lap", "_law_low_so", "_law_high_so"]
theorem c_law_drawn_pairs : FnScope n_law_drawn_pairs ["_law_tin"] (defScope s_law_drawn_pairs) := ⟨rfl, rfl, rfl, by decide +kernel, rfl, by decide +kernel, by decide +kernel⟩
abbrev s_law_by_hand_right : Stmt := topS 54
abbrev n_law_by_hand_right : List Str := ["_law_a", "_law_b", "_law_first", "_law_every_here", "_law_got", "_law_due", "_law_pairs", "_law_things", "_law_own", "_law_out", "_law_cuts", "_law_grains_here"]
theorem c_law_by_hand_right : FnScope n_law_by_hand_right [] (defScope s_law_by_hand_right) := ⟨rfl, rfl, rfl, by decide +kernel, rfl, by decide +kernel, by decide +kernel⟩
abbrev s_law_right : Stmt := topS 55
abbrev n_law_right : List Str := ["_law_tin", "_law_one", "_law_two", "_law_soft", "_law_got", "_law_due", "_law_out_so", "_law_back_so", "_law_parted_so", "_law_own", "_law_spans", "_law_lap", "_law_rows", "_law_pairs", "_law_points_so", "_law_things"]
theorem c_law_right : FnScope n_law_right ["_law_tin"] (defScope s_law_right) := ⟨rfl, rfl, rfl, by decide +kernel, rfl, by decide +kernel, by decide +kernel⟩
abbrev s_law : Stmt := topS 56
abbrev n_law : List Str := ["_law_script", "_law_cells_here", "_law_k"]
theorem c_law : FnScope n_law ["_law_script"] (defScope s_law) := ⟨rfl, rfl, rfl, by decide +kernel, rfl, by decide +kernel, by decide +kernel⟩
end NF

set_option Elab.async false
set_option linter.all false
set_option maxRecDepth 100000
set_option maxHeartbeats 2000000
namespace NF
open PySem PySem.Spec PyProof.Rows L2
/-- a def of one argument -/
def pre1 (f : PyData → PyData) : List PyData → PyData → Prop := fun ds d => ∃ t, ds = [t] ∧ d = f t
def isNum (t : PyData) : Bool := dIsInt t && !dIsBool t
section
variable {P : Program} {w : World} {K : PySem.W.Frag} {mg : Str → Option Value} {base : Heap}
theorem df_is_number (F : At K mg "is_number" s_is_number ["thing"]) (B : Blt mg) : Df P w K mg base 1 "is_number" ["thing"] (spD K (pre1 fun t => .bool (isNum t))) := by
  refine df_mk F c_is_number (fun ds d h => ?_) fun f cdv A outer s H E vs R ds d hr dv h => ?_
  · obtain ⟨t, rfl, _⟩ := h
    rfl
  · obtain ⟨t, rfl, rfl⟩ := h
    obtain ⟨v, rfl, a⟩ := DvAll.one' dv
    exact bd_ret (pd_and (pd_isInt B (pd_var 0 rfl a)) fun _ => pd_one (pd_not (pd_isBool B (pd_var 0 rfl a))))
theorem df_law_is_number (F : At K mg "_law_is_number" s_law_is_number ["_law_own"]) (B : Blt mg) : Df P w K mg base 1 "_law_is_number" ["_law_own"] (spD K (pre1 fun t => .bool (isNum t))) := by
  refine df_mk F c_law_is_number (fun ds d h => ?_) fun f cdv A outer s H E vs R ds d hr dv h => ?_
  · obtain ⟨t, rfl, _⟩ := h
    rfl
  · obtain ⟨t, rfl, rfl⟩ := h
    obtain ⟨v, rfl, a⟩ := DvAll.one' dv
    exact bd_ret (pd_and (pd_isInt B (pd_var 0 rfl a)) fun _ => pd_one (pd_not (pd_isBool B (pd_var 0 rfl a))))
def tupOf (t : PyData) (n : Int) : Bool := match t with
  | .tuple ds => (ds.length : Int) == n
  | _ => false
theorem df_is_tuple_of (F : At K mg "is_tuple_of" s_is_tuple_of ["thing", "size"]) (B : Blt mg) : Df P w K mg base 1 "is_tuple_of" ["thing", "size"] (spD K fun ds d => ∃ t n, ds = [t, .int n] ∧ d = .bool (tupOf t n)) := by
  refine df_mk F c_is_tuple_of (fun ds d h => ?_) fun f cdv A outer s H E vs R ds d hr dv h => ?_
  · obtain ⟨t, n, rfl, _⟩ := h
    rfl
  · obtain ⟨t, n, rfl, rfl⟩ := h
    obtain ⟨v, u, rfl, a, b⟩ := DvAll.two' dv
    have e : tupOf t n = (dIsTup t && tupOf t n) := by cases t <;> rfl
    rw [e]
    refine bd_ret (pd_and (pd_isTup B (pd_var 0 rfl a)) fun ht => pd_one ?_)
    cases t with
    | tuple es => exact PD.eq (pd_eq hr.units (pd_len B (pd_var 0 rfl a) .t) (pd_var 1 rfl b) rfl rfl) rfl
    | _ => cases ht
end
end NF

set_option Elab.async false
set_option linter.all false
set_option maxRecDepth 100000
set_option maxHeartbeats 2000000
namespace NF
open PySem PySem.Spec PyProof.Rows L2
theorem pds_one {X : Cx} {e : Expr} {σ : L2.St} {R : Hp} {d : PyData} (h : PD X e σ R d) (hs : starEach [e] X.env = (false, eval e X.env) :: starEach [] X.env := by rfl) : PDs X [e] σ R [d] := pds_cons h pds_nil hs
theorem filterMap_some {α β : Type} (f : α → β) : ∀ l : List α, l.filterMap (fun x => some (f x)) = l.map f
  | [] => rfl
  | x :: l => by
    show f x :: l.filterMap (fun x => some (f x)) = _
    rw [filterMap_some f l]; rfl
/-- a rebuilding by parts -/
def preRec (m : PyData → PyData) (n : Nat) : List PyData → PyData → Prop := fun ds d => ∃ t, ds = [t] ∧ fin n t = true ∧ d = m t
section
variable {P : Program} {w : World} {K : PySem.W.Frag} {mg : Str → Option Value} {base : Heap}
theorem df_tupled (F : At K mg "tupled" s_tupled ["thing"]) (B : Blt mg) : ∀ k, Df P w K mg base (k + 1) "tupled" ["thing"] (spD K (preRec tupM k)) := by
  have flat : ∀ (t : PyData), (∀ ds, ¬ SeqD t ds) → (dIsList t || dIsTup t) = false ∧ tupM t = t := fun t h => by
    cases t with
    | list ds => exact absurd .l (h ds)
    | tuple ds => exact absurd .t (h ds)
    | none => exact ⟨rfl, rfl⟩
    | bool _ => exact ⟨rfl, rfl⟩
    | int _ => exact ⟨rfl, rfl⟩
    | str _ => exact ⟨rfl, rfl⟩
    | dict _ => exact ⟨rfl, rfl⟩
  intro k
  induction k with
  | zero =>
    refine df_mk F c_tupled (fun ds d h => ?_) fun f cdv A outer s H E vs R ds d hr dv h => ?_
    · obtain ⟨t, rfl, _⟩ := h; rfl
    · obtain ⟨t, rfl, ht, rfl⟩ := h
      obtain ⟨v, rfl, a⟩ := DvAll.one' dv
      have hns : ∀ ds, ¬ SeqD t ds := fun ds q => by rcases q with rfl | rfl <;> cases ht
      obtain ⟨e1, e2⟩ := flat t hns
      rw [e2]
      exact bd_ret (PD.eq (pd_if (d1 := t) (ptd (pd_isi2 (y := "list") (z := "tuple") (t := "list") (u := "tuple") B (pd_var 0 rfl a) B.list (by decide +kernel) (kit_list t) B.tuple (by decide +kernel) (kit_tup t))) (fun q => by rw [e1] at q; cases q) fun _ => pd_var 0 rfl a) (by rw [e1]; rfl))
  | succ k ih =>
    refine df_mk F c_tupled (fun ds d h => ?_) fun f cdv A outer s H E vs R ds d hr dv h => ?_
    · obtain ⟨t, rfl, _⟩ := h; rfl
    · obtain ⟨t, rfl, ht, rfl⟩ := h
      obtain ⟨v, rfl, a⟩ := DvAll.one' dv
      by_cases hs : ∃ ds, SeqD t ds
      · obtain ⟨ds, q⟩ := hs
        have hds : ds.length ≤ 1000 ∧ ∀ d ∈ ds, fin k d = true := by
          rcases q with rfl | rfl
          · exact fin_l.mp ht
          · exact fin_t.mp ht
        have e1 : (dIsList t || dIsTup t) = true := by rcases q with rfl | rfl <;> rfl
        have e2 : tupM t = .tuple (ds.filterMap fun d => some (tupM d)) := by
          rw [filterMap_some, ← tupMs_map]
          rcases q with rfl | rfl <;> rfl
        rw [e2]
        refine bd_ret (PD.eq (pd_if (d2 := .none) (ptd (pd_isi2 (y := "list") (z := "tuple") (t := "list") (u := "tuple") B (pd_var 0 rfl a) B.list (by decide +kernel) (kit_list t) B.tuple (by decide +kernel) (kit_tup t))) (fun _ => pd_tuple B (pd_lc (own := [("part", 1)]) (f := fun d => some (tupM d)) rfl c_tupled.nd (pid_seq (pd_var 0 rfl a) q) (blkOk_by (by show blkC n_tupled (defScope s_tupled) _ _ = true; decide +kernel)) (Nat.le_trans hds.1 (by decide)) (fun _ _ _ _ _ => pg_name (i := 1) c_tupled.nd rfl (Or.inl rfl)) (fun d v R1 H1 kk hd s1 s2 dv q2 => q2 _ rfl (lcb_all fun _ _ _ _ _ => pd_call ih hr (pds_one (pd_var 1 rfl dv)) ⟨d, rfl, hds.2 d hd, rfl⟩))) .l) (fun z => by rw [e1] at z; cases z)) (by rw [e1]; rfl))
      · have hns : ∀ ds, ¬ SeqD t ds := fun ds q => hs ⟨ds, q⟩
        obtain ⟨e1, e2⟩ := flat t hns
        rw [e2]
        exact bd_ret (PD.eq (pd_if (d1 := t) (ptd (pd_isi2 (y := "list") (z := "tuple") (t := "list") (u := "tuple") B (pd_var 0 rfl a) B.list (by decide +kernel) (kit_list t) B.tuple (by decide +kernel) (kit_tup t))) (fun q => by rw [e1] at q; cases q) fun _ => pd_var 0 rfl a) (by rw [e1]; rfl))
end
end NF

set_option Elab.async false
set_option linter.all false
set_option maxRecDepth 100000
set_option maxHeartbeats 2000000
namespace NF
open PySem PySem.Spec PyProof.Rows L2
theorem zipD_self {ds : List PyData} {d : PyData} (h : d ∈ zipD ds ds) : ∃ e ∈ ds, d = .tuple [e, e] := by
  obtain ⟨i, hi, e⟩ := List.mem_iff_getElem.mp h
  have hl : i < ds.length := by rw [zipD_len, Nat.min_self] at hi; exact hi
  have := zipD_at (i := i) (List.getElem?_eq_getElem hl) (List.getElem?_eq_getElem hl)
  rw [List.getElem?_eq_getElem hi, e] at this
  exact ⟨_, List.getElem_mem hl, Option.some.inj this⟩
theorem eqv_fin {n : Nat} {d : PyData} (h : fin n d = true) : PyData.eqv d d = true := SeqAt.eqv_refl d (fin_lay n d h).1
theorem all_true {α : Type} (l : List α) : (l.map fun _ => true).all id = true := by
  rw [List.all_eq_true]
  intro b hb
  obtain ⟨_, _, rfl⟩ := List.mem_map.mp hb
  rfl
section
variable {P : Program} {w : World} {K : PySem.W.Frag} {mg : Str → Option Value} {base : Heap}
theorem df_law_lists (F : At K mg "_law_lists" s_law_lists ["_law_matter"]) (B : Blt mg) : ∀ k, Df P w K mg base (k + 1) "_law_lists" ["_law_matter"] (spD K (preRec lisM k)) := by
  have flat : ∀ (t : PyData), (∀ ds, ¬ SeqD t ds) → (dIsList t || dIsTup t) = false ∧ lisM t = t := fun t h => by
    cases t with
    | list ds => exact absurd .l (h ds)
    | tuple ds => exact absurd .t (h ds)
    | none => exact ⟨rfl, rfl⟩
    | bool _ => exact ⟨rfl, rfl⟩
    | int _ => exact ⟨rfl, rfl⟩
    | str _ => exact ⟨rfl, rfl⟩
    | dict _ => exact ⟨rfl, rfl⟩
  intro k
  induction k with
  | zero =>
    refine df_mk F c_law_lists (fun ds d h => ?_) fun f cdv A outer s H E vs R ds d hr dv h => ?_
    · obtain ⟨t, rfl, _⟩ := h; rfl
    · obtain ⟨t, rfl, ht, rfl⟩ := h
      obtain ⟨v, rfl, a⟩ := DvAll.one' dv
      have hns : ∀ ds, ¬ SeqD t ds := fun ds q => by rcases q with rfl | rfl <;> cases ht
      obtain ⟨e1, e2⟩ := flat t hns
      rw [e2]
      exact bd_ret (PD.eq (pd_if (d1 := t) (ptd (pd_isi2 (y := "list") (z := "tuple") (t := "list") (u := "tuple") B (pd_var 0 rfl a) B.list (by decide +kernel) (kit_list t) B.tuple (by decide +kernel) (kit_tup t))) (fun q => by rw [e1] at q; cases q) fun _ => pd_var 0 rfl a) (by rw [e1]; rfl))
  | succ k ih =>
    refine df_mk F c_law_lists (fun ds d h => ?_) fun f cdv A outer s H E vs R ds d hr dv h => ?_
    · obtain ⟨t, rfl, _⟩ := h; rfl
    · obtain ⟨t, rfl, ht, rfl⟩ := h
      obtain ⟨v, rfl, a⟩ := DvAll.one' dv
      by_cases hs : ∃ ds, SeqD t ds
      · obtain ⟨ds, q⟩ := hs
        have hds : ds.length ≤ 1000 ∧ ∀ d ∈ ds, fin k d = true := by
          rcases q with rfl | rfl
          · exact fin_l.mp ht
          · exact fin_t.mp ht
        have e1 : (dIsList t || dIsTup t) = true := by rcases q with rfl | rfl <;> rfl
        have e2 : lisM t = .list (ds.filterMap fun d => some (lisM d)) := by
          rw [filterMap_some, ← lisMs_map]
          rcases q with rfl | rfl <;> rfl
        rw [e2]
        refine bd_ret (PD.eq (pd_if (d2 := .none) (ptd (pd_isi2 (y := "list") (z := "tuple") (t := "list") (u := "tuple") B (pd_var 0 rfl a) B.list (by decide +kernel) (kit_list t) B.tuple (by decide +kernel) (kit_tup t))) (fun _ => (pd_lc (own := [("_law_bit", 1)]) (f := fun d => some (lisM d)) rfl c_law_lists.nd (pid_seq (pd_var 0 rfl a) q) (blkOk_by (by show blkC n_law_lists (defScope s_law_lists) _ _ = true; decide +kernel)) (Nat.le_trans hds.1 (by decide)) (fun _ _ _ _ _ => pg_name (i := 1) c_law_lists.nd rfl (Or.inl rfl)) (fun d v R1 H1 kk hd s1 s2 dv q2 => q2 _ rfl (lcb_all fun _ _ _ _ _ => pd_call ih hr (pds_one (pd_var 1 rfl dv)) ⟨d, rfl, hds.2 d hd, rfl⟩)))) (fun z => by rw [e1] at z; cases z)) (by rw [e1]; rfl))
      · have hns : ∀ ds, ¬ SeqD t ds := fun ds q => hs ⟨ds, q⟩
        obtain ⟨e1, e2⟩ := flat t hns
        rw [e2]
        exact bd_ret (PD.eq (pd_if (d1 := t) (ptd (pd_isi2 (y := "list") (z := "tuple") (t := "list") (u := "tuple") B (pd_var 0 rfl a) B.list (by decide +kernel) (kit_list t) B.tuple (by decide +kernel) (kit_tup t))) (fun q => by rw [e1] at q; cases q) fun _ => pd_var 0 rfl a) (by rw [e1]; rfl))
/-- of equal data -/
def preSame (n : Nat) : List PyData → PyData → Prop := fun ds d => ∃ t, ds = [t, t] ∧ fin n t = true ∧ d = .bool true
theorem df_law_same (F : At K mg "_law_same" s_law_same ["_law_got", "_law_due"]) (B : Blt mg) : ∀ k, Df P w K mg base (k + 1) "_law_same" ["_law_got", "_law_due"] (spD K (preSame k)) := by
  -- what has no parts
  have leaf : ∀ (k : Nat) (f : Addr) (cdv : Value) (A : Around) (outer : List Env) (s : Shared) (H : Hp) (E : XK) (v u : V) (R : Hp) (t : PyData), Room k (A.deeper (envOfC "_law_same" (defScope s_law_same) s.heap.objs.size f cdv)) → Dv K R v t → Dv K R u t → fin 0 t = true →
      BD (dcx P w K mg base n_law_same "_law_same" (defScope s_law_same) f cdv A outer s H E) (defBody s_law_same) (start n_law_same [v, u]) R (.bool true) := by
    intro k f cdv A outer s H E v u R t hr a b ht
    have c1 : ∀ {t : PyData}, fin 0 t = true → (dIsList t || dIsTup t) = false := fun {t} ht => by cases t <;> first | rfl | cases ht
    have sh : SeqAt.shaped t = true := fin_shaped ht
    refine bd_if (ptd (pd_isi2 (y := "list") (z := "tuple") (t := "list") (u := "tuple") B (pd_var 1 rfl b) B.list (by decide +kernel) (kit_list t) B.tuple (by decide +kernel) (kit_tup t))) (fun q => by rw [c1 ht] at q; cases q) fun _ => ?_
    refine bd_if (b := isNon t || (dIsBool t || dIsStr t)) (ptd_or (ptd_isN (pd_var 1 rfl b)) fun _ => pwd_or1 (ptd (pd_isi2 (y := "bool") (z := "str") (t := "bool") (u := "str") B (pd_var 1 rfl b) B.bool (by decide +kernel) (kit_bool t) B.str (by decide +kernel) (kit_str t)))) (fun q => ?_) fun q => ?_
    · refine bd_ret (PD.eq (pd_and (pd_eq hr.units (pd_var 0 rfl a) (pd_var 1 rfl b) sh sh) fun _ => pd_and (pd_eq hr.units (pd_isBool B (pd_var 0 rfl a)) (pd_isBool B (pd_var 1 rfl b)) rfl rfl) fun _ => pd_one (pd_eq hr.units (pd_isN (pd_var 0 rfl a)) (pd_isN (pd_var 1 rfl b)) rfl rfl)) ?_)
      rw [eqv_fin ht]
      cases dIsBool t <;> cases isNon t <;> rfl
    · refine bd_ret (PD.eq (pd_and (pd_isInt B (pd_var 0 rfl a)) fun _ => pd_and (pd_not (pd_isBool B (pd_var 0 rfl a))) fun _ => pd_one (pd_eq hr.units (pd_var 0 rfl a) (pd_var 1 rfl b) sh sh)) ?_)
      rw [eqv_fin ht]
      cases t with
      | int i => rfl
      | bool _ => cases q
      | none => cases q
      | str _ => cases ht
      | list _ => cases ht
      | tuple _ => cases ht
      | dict _ => cases ht
  intro k
  induction k with
  | zero =>
    refine df_mk F c_law_same (fun ds d h => ?_) fun f cdv A outer s H E vs R ds d hr dv h => ?_
    · obtain ⟨t, rfl, _⟩ := h; rfl
    · obtain ⟨t, rfl, ht, rfl⟩ := h
      obtain ⟨v, u, rfl, a, b⟩ := DvAll.two' dv
      exact leaf 0 f cdv A outer s H E v u R t hr a b ht
  | succ k ih =>
    refine df_mk F c_law_same (fun ds d h => ?_) fun f cdv A outer s H E vs R ds d hr dv h => ?_
    · obtain ⟨t, rfl, _⟩ := h; rfl
    · obtain ⟨t, rfl, ht, rfl⟩ := h
      obtain ⟨v, u, rfl, a, b⟩ := DvAll.two' dv
      by_cases hs : ∃ ds, SeqD t ds
      · obtain ⟨ds, q⟩ := hs
        have hds : ds.length ≤ 1000 ∧ ∀ d ∈ ds, fin k d = true := by
          rcases q with rfl | rfl
          · exact fin_l.mp ht
          · exact fin_t.mp ht
        have e1 : (dIsList t || dIsTup t) = true := by rcases q with rfl | rfl <;> rfl
        refine bd_if (ptd (pd_isi2 (y := "list") (z := "tuple") (t := "list") (u := "tuple") B (pd_var 1 rfl b) B.list (by decide +kernel) (kit_list t) B.tuple (by decide +kernel) (kit_tup t))) (fun _ => ?_) fun z => by rw [e1] at z; cases z
        refine bd_if (b := false) (PTD.eq (ptd_or (ptd_ne hr.units (pd_isList B (pd_var 0 rfl a)) (pd_isList B (pd_var 1 rfl b)) rfl rfl) fun _ => pwd_or1 (ptd_ne hr.units (pd_isTup B (pd_var 0 rfl a)) (pd_isTup B (pd_var 1 rfl b)) rfl rfl)) (by rcases q with rfl | rfl <;> rfl)) (fun z => by cases z) fun _ => ?_
        have el : PyData.eqv (.int (ds.length : Int)) (.int (ds.length : Int)) = true := by show ((ds.length : Int) == (ds.length : Int)) = true; simp
        refine bd_ret (PD.eq (pd_and (pd_eq hr.units (pd_len B (pd_var 0 rfl a) q) (pd_len B (pd_var 1 rfl b) q) rfl rfl) fun _ => pd_one (pd_all (bs := (zipD ds ds).map fun _ => true) rfl B ?_)) ?_)
        · refine PD.eq (pd_lc (own := [("_law_mine", 2), ("_law_its", 3)]) (g := gTup K 2 (gCons (gName 2) (gCons (gName 3) gNil))) (f := fun _ => some (.bool true)) rfl c_law_same.nd (pid_zip B (pd_var 0 rfl a) q (pd_var 1 rfl b) q) (blkOk_by (by show blkC n_law_same (defScope s_law_same) _ _ = true; decide +kernel)) (by rw [zipD_len, Nat.min_self]; exact Nat.le_trans hds.1 (by decide))
            (fun _ _ _ _ _ => pg2 2 3 rfl c_law_same.nd) (fun d v R1 H1 kk hd s1 s2 dv q2 => ?_)) ?_
          · obtain ⟨e, he, rfl⟩ := zipD_self hd
            exact g_two s2 dv fun v1 v2 h1 h2 => q2 _ rfl (lcb_all fun _ _ _ _ _ => pd_call ih hr (pds_cons (pd_var 2 rfl h1) (pds_one (pd_var 3 rfl h2))) ⟨e, rfl, hds.2 e he, rfl⟩)
          · rw [filterMap_some (fun _ => PyData.bool true), List.map_map]
            rfl
        · rw [el, all_true]
          rfl
      · have ht0 : fin 0 t = true := by
          cases t with
          | list ds => exact absurd ⟨ds, .l⟩ hs
          | tuple ds => exact absurd ⟨ds, .t⟩ hs
          | none => rfl
          | bool _ => rfl
          | int _ => rfl
          | str _ => cases ht
          | dict _ => cases ht
        exact leaf (k + 1) f cdv A outer s H E v u R t hr a b ht0
end
end NF

set_option Elab.async false
set_option linter.all false
set_option maxRecDepth 100000
set_option maxHeartbeats 2000000
namespace NF
open PySem PySem.Spec PyProof.Rows L2
/-- the program's own names -/
structure Gls (K : PySem.W.Frag) (mg : Str → Option Value) : Prop where
  first : ∃ a, mg "FIRST" = some (.ref a) ∧ ∀ H, SqT K H a (NF.first.map V.int)
  early : ∃ u, mg "EARLIEST" = some u ∧ RelV (.int (-9)) u
def verM : PyData → Option Ver
  | .tuple [.int a, .int b, .int c, .int e] => if (decide (0 ≤ min a (min b c)) && (decide (-9 ≤ e) && decide (e ≤ 0))) = true then some [a, b, c, e] else none
  | _ => none
theorem tup_size {t : PyData} {n : Int} (h : tupOf t n = true) : ∃ ds, t = .tuple ds ∧ (ds.length : Int) = n := by
  cases t with
  | tuple ds => exact ⟨ds, rfl, by unfold tupOf at h; simpa using h⟩
  | _ => cases h
theorem size4 {ds : List PyData} (h : (ds.length : Int) = 4) : ∃ x y z w, ds = [x, y, z, w] := by
  have : ds.length = 4 := by omega
  match ds, this with
  | [x, y, z, w], _ => exact ⟨x, y, z, w, rfl⟩
theorem size2 {ds : List PyData} (h : (ds.length : Int) = 2) : ∃ x y, ds = [x, y] := by
  have : ds.length = 2 := by omega
  match ds, this with
  | [x, y], _ => exact ⟨x, y, rfl⟩
theorem num_int {d : PyData} (h : isNum d = true) : ∃ i, d = .int i := by
  cases d with
  | int i => exact ⟨i, rfl⟩
  | _ => cases h
theorem verM_not {t : PyData} (h : tupOf t 4 = false ∨ ∃ ds, t = .tuple ds ∧ ds.all isNum = false) : verM t = none := by
  unfold verM
  split
  · rcases h with h | ⟨ds, e, h⟩
    · cases h
    · cases e; cases h
  · rfl
theorem verM_eq {t : PyData} {v : Ver} (h : verM t = some v) : t = tupI v ∧ v ≠ [] := by
  unfold verM at h
  split at h
  · split at h
    · cases h; exact ⟨rfl, List.cons_ne_nil _ _⟩
    · cases h
  · cases h
theorem verM_four (a b c e : Int) : (verM (.tuple [.int a, .int b, .int c, .int e])).isSome = (decide (0 ≤ min a (min b c)) && (decide (-9 ≤ e) && decide (e ≤ 0))) := by
  show (if (decide (0 ≤ min a (min b c)) && (decide (-9 ≤ e) && decide (e ≤ 0))) = true then some [a, b, c, e] else none).isSome = _
  by_cases h : (decide (0 ≤ min a (min b c)) && (decide (-9 ≤ e) && decide (e ≤ 0))) = true
  · rw [if_pos h, h]; rfl
  · rw [if_neg h]
    have := eq_false_of_ne_true h
    rw [this]; rfl
theorem min3_mem (a b c : Int) : min a (min b c) ∈ [a, b, c] := by
  rcases Int.le_total b c with h | h
  · rw [Int.min_eq_left h]
    rcases Int.le_total a b with h' | h'
    · rw [Int.min_eq_left h']; simp
    · rw [Int.min_eq_right h']; simp
  · rw [Int.min_eq_right h]
    rcases Int.le_total a c with h' | h'
    · rw [Int.min_eq_left h']; simp
    · rw [Int.min_eq_right h']; simp
theorem min3_le (a b c : Int) : ∀ j ∈ [a, b, c], min a (min b c) ≤ j := by
  intro j hj
  simp only [List.mem_cons, List.not_mem_nil, or_false] at hj
  rcases hj with rfl | rfl | rfl <;> omega
def pairM : PyData → Option Pr
  | .tuple [x, y] => match verM x with
    | none => none
    | some a => if isNon y = true then some (a, none) else match verM y with
      | none => none
      | some b => if a < b then some (a, some b) else none
  | _ => none
theorem isNon_eq {d : PyData} (h : isNon d = true) : d = .none := by cases d <;> first | rfl | cases h
theorem pairM_eq {t : PyData} {p : Pr} (h : pairM t = some p) : t = encP p := by
  unfold pairM at h
  split at h
  · rename_i x y
    split at h
    · cases h
    · rename_i a ha
      obtain ⟨rfl, _⟩ := verM_eq ha
      split at h
      · rename_i hy
        cases h
        rw [isNon_eq hy]
        rfl
      · split at h
        · cases h
        · rename_i b hb
          obtain ⟨rfl, _⟩ := verM_eq hb
          split at h
          · cases h; rfl
          · cases h
  · cases h
def chainB (p q : Pr) : Bool := match p.2 with
  | none => false
  | some h => decide (h < q.1)
def chainM (s : Span) : Bool := (List.zip s s.tail).all fun z => chainB z.1 z.2
def rangeM : PyData → Bool
  | .tuple ds => ds.all (fun d => (pairM d).isSome) && chainM (ds.filterMap pairM)
  | _ => false
theorem pairs_enc : ∀ {ds : List PyData}, (ds.all fun d => (pairM d).isSome) = true → ds = encPs (ds.filterMap pairM)
  | [], _ => rfl
  | d :: ds, h => by
    rw [List.all_cons, Bool.and_eq_true] at h
    obtain ⟨p, hp⟩ := Option.isSome_iff_exists.mp h.1
    rw [List.filterMap_cons_some hp]
    show d :: ds = encP p :: encPs (ds.filterMap pairM)
    rw [← pairM_eq hp, ← pairs_enc h.2]
theorem zipD_encPs (s : Span) : zipD (encPs s) (encPs s.tail) = (List.zip s s.tail).map fun z => .tuple [encP z.1, encP z.2] := by
  unfold zipD encPs
  rw [List.zipWith_map, List.zip_eq_zipWith, List.map_zipWith]
theorem cut1 {α : Type} (l : List α) : cutA l (some 1) none = l.tail := by
  have h : cutA l (some 1) none = (l.drop (HT.sIx l.length 0 (some 1))).take (l.length - HT.sIx l.length 0 (some 1)) := rfl
  rw [h]
  cases l with
  | nil => simp
  | cons x l =>
    have e : HT.sIx (x :: l).length 0 (some 1) = 1 := by
      unfold HT.sIx
      simp
    rw [e]
    simp
section
variable {P : Program} {w : World} {K : PySem.W.Frag} {mg : Str → Option Value} {base : Heap}
def preVer : List PyData → PyData → Prop := fun ds d => ∃ t, ds = [t] ∧ d = .bool (verM t).isSome
def prePair : List PyData → PyData → Prop := fun ds d => ∃ t, ds = [t] ∧ d = .bool (pairM t).isSome
def preRange : List PyData → PyData → Prop := fun ds d => ∃ t, ds = [t] ∧ fin 8 t = true ∧ d = .bool (rangeM t)
theorem df_is_version (F : At K mg "is_version" s_is_version ["thing"]) (B : Blt mg) (G : Gls K mg) (F1 : Df P w K mg base 1 "is_tuple_of" ["thing", "size"] (spD K fun ds d => ∃ t n, ds = [t, .int n] ∧ d = .bool (tupOf t n))) (F2 : Df P w K mg base 1 "is_number" ["thing"] (spD K (pre1 fun t => .bool (isNum t)))) :
    Df P w K mg base 2 "is_version" ["thing"] (spD K preVer) := by
  refine df_mk F c_is_version (fun ds d h => ?_) fun f cdv A outer s H E vs R ds d hr dv h => ?_
  · obtain ⟨t, rfl, _⟩ := h; rfl
  · obtain ⟨t, rfl, rfl⟩ := h
    obtain ⟨v, rfl, a⟩ := DvAll.one' dv
    cases h4 : tupOf t 4 with
    | false =>
      rw [verM_not (.inl h4)]
      refine bd_if (b := true) (PTD.eq (ptd_or (y := true) (ptd_not (ptd (pd_call F1 hr (pds_cons (pd_var 0 rfl a) (pds_one pd_int)) ⟨t, 4, rfl, rfl⟩))) fun z => by rw [h4] at z; cases z) (by rw [h4]; rfl)) (fun _ => bd_ret pd_bool) fun z => by cases z
    | true =>
      obtain ⟨ds, rfl, hl⟩ := tup_size h4
      have hl' : ds.length ≤ sizeLine := by have : ds.length = 4 := by omega
                                            rw [this]; decide
      refine bd_if (b := !ds.all isNum) (PTD.eq (ptd_or (ptd_not (ptd (pd_call F1 hr (pds_cons (pd_var 0 rfl a) (pds_one pd_int)) ⟨_, 4, rfl, rfl⟩))) fun _ => pwd_or1 (ptd_not (ptd (pd_all (bs := ds.map isNum) rfl B (PD.eq (pd_lc (own := [("part", 1)]) (f := fun d => some (.bool (isNum d))) rfl c_is_version.nd (pid_seq (pd_var 0 rfl a) .t) (blkOk_by (by show blkC n_is_version (defScope s_is_version) _ _ = true; decide +kernel)) hl' (fun _ _ _ _ _ => pg_name (i := 1) c_is_version.nd rfl (Or.inl rfl))
        (fun d v R1 H1 kk hd s1 s2 dv q2 => q2 _ rfl (lcb_all fun _ _ _ _ _ => pd_call F2 hr (pds_one (pd_var 1 rfl dv)) ⟨d, rfl, rfl⟩))) (by rw [filterMap_some fun d => PyData.bool (isNum d), List.map_map]; rfl)))))) (by rw [h4, List.all_map]; rfl)) (fun q => ?_) fun q => ?_
      · have hn : ds.all isNum = false := by simpa using q
        rw [verM_not (.inr ⟨ds, rfl, hn⟩)]
        exact bd_ret pd_bool
      · have hn : ds.all isNum = true := by simpa using q
        obtain ⟨x, y, z, u, rfl⟩ := size4 hl
        simp only [List.all_cons, List.all_nil, Bool.and_true, Bool.and_eq_true] at hn
        obtain ⟨i, rfl⟩ := num_int hn.1
        obtain ⟨j, rfl⟩ := num_int hn.2.1
        obtain ⟨l, rfl⟩ := num_int hn.2.2.1
        obtain ⟨e, rfl⟩ := num_int hn.2.2.2
        obtain ⟨u, hu, ru⟩ := G.early
        refine bd_ret (PD.eq (pd_and (pd_ge (pd_min (ns := [i, j, l]) rfl B (PD.eq (pd_sliceT (pd_var 0 rfl a) pod_none (pod_some pd_int)) rfl) (min3_mem i j l) (min3_le i j l)) pd_int) fun _ => pd_one (pd_chain (z1 := decide (-9 ≤ e)) (z2 := decide (e ≤ 0)) op_le op_le (pd_glob (v := .int (-9)) hu ru (.int _)) (pd_ix (pd_var 0 rfl a) pd_int .t rfl) pd_int (fun x y H1 Q h1 h2 q => ?_) (fun x y H1 Q h1 h2 q => ?_))) ?_)
        · cases h1; cases h2; exact ⟨_, _, rfl, rfl, q⟩
        · cases h1; cases h2; exact ⟨_, _, rfl, rfl, q⟩
        · rw [verM_four]
theorem df_is_span_pair (F : At K mg "is_span_pair" s_is_span_pair ["thing"]) (B : Blt mg) (F1 : Df P w K mg base 1 "is_tuple_of" ["thing", "size"] (spD K fun ds d => ∃ t n, ds = [t, .int n] ∧ d = .bool (tupOf t n))) (F2 : Df P w K mg base 2 "is_version" ["thing"] (spD K preVer)) :
    Df P w K mg base 3 "is_span_pair" ["thing"] (spD K prePair) := by
  refine df_mk F c_is_span_pair (fun ds d h => ?_) fun f cdv A outer s H E vs R ds d hr dv h => ?_
  · obtain ⟨t, rfl, _⟩ := h; rfl
  · obtain ⟨t, rfl, rfl⟩ := h
    obtain ⟨v, rfl, a⟩ := DvAll.one' dv
    have hr1 : Room 1 _ := hr.mono (by decide)
    cases h4 : tupOf t 2 with
    | false =>
      have e : pairM t = none := by
        unfold pairM
        split
        · cases h4
        · rfl
      rw [e]
      refine bd_if (b := true) (PTD.eq (ptd_or (y := true) (ptd_not (ptd (pd_call F1 hr1 (pds_cons (pd_var 0 rfl a) (pds_one pd_int)) ⟨t, 2, rfl, rfl⟩))) fun z => by rw [h4] at z; cases z) (by rw [h4]; rfl)) (fun _ => bd_ret pd_bool) fun z => by cases z
    | true =>
      obtain ⟨ds, rfl, hl⟩ := tup_size h4
      obtain ⟨x, y, rfl⟩ := size2 hl
      refine bd_if (b := !(verM x).isSome) (PTD.eq (ptd_or (ptd_not (ptd (pd_call F1 hr1 (pds_cons (pd_var 0 rfl a) (pds_one pd_int)) ⟨_, 2, rfl, rfl⟩))) fun _ => pwd_or1 (ptd_not (ptd (pd_call F2 hr (pds_one (pd_ix (pd_var 0 rfl a) pd_int .t rfl)) ⟨x, rfl, rfl⟩)))) (by rw [h4]; rfl)) (fun q => ?_) fun q => ?_
      · have e : verM x = none := by cases hx : verM x with
          | none => rfl
          | some _ => rw [hx] at q; cases q
        have e2 : pairM (.tuple [x, y]) = none := by unfold pairM; simp only [e]
        rw [e2]
        exact bd_ret pd_bool
      · obtain ⟨va, hva⟩ : ∃ va, verM x = some va := by cases hx : verM x with
          | none => rw [hx] at q; cases q
          | some u => exact ⟨u, rfl⟩
        obtain ⟨rfl, _⟩ := verM_eq hva
        cases hy : verM y with
        | none =>
          refine bd_ret (PD.eq (pd_or (pd_isN (pd_ix (pd_var 0 rfl a) pd_int .t rfl)) fun _ => pd_one (pd_and (y := false) (pd_call F2 hr (pds_one (pd_ix (pd_var 0 rfl a) pd_int .t rfl)) ⟨y, rfl, rfl⟩) fun z => by rw [hy] at z; cases z)) ?_)
          unfold pairM
          simp only [hva, hy]
          cases isNon y <;> rfl
        | some vb =>
          obtain ⟨rfl, _⟩ := verM_eq hy
          refine bd_ret (PD.eq (pd_or (pd_isN (pd_ix (pd_var 0 rfl a) pd_int .t rfl)) fun _ => pd_one (pd_and (pd_call F2 hr (pds_one (pd_ix (pd_var 0 rfl a) pd_int .t rfl)) ⟨_, rfl, rfl⟩) fun _ => pd_one (pd_ltT hr.units0 (pd_ix (pd_var 0 rfl a) pd_int .t rfl) (pd_ix (pd_var 0 rfl a) pd_int .t rfl)))) ?_)
          unfold pairM
          simp only [hva, hy]
          rw [lexLt_eq]
          show PyData.bool (false || (true && decide (va < vb))) = PyData.bool (Option.isSome (if false = true then some (va, none) else if va < vb then some (va, some vb) else none))
          by_cases hlt : va < vb
          · simp [hlt]
          · simp [hlt]
theorem df_is_range (F : At K mg "is_range" s_is_range ["thing"]) (B : Blt mg) (F1 : Df P w K mg base 3 "is_span_pair" ["thing"] (spD K prePair)) : Df P w K mg base 4 "is_range" ["thing"] (spD K preRange) ∧ DfK P w K mg base 4 "is_range" "thing" (spD K preRange) := by
  have body : ∀ (f : Addr) (cdv : Value) (A : Around) (outer : List Env) (s : Shared) (H : Hp) (E : XK) (vs : List V) (R : Hp) (ds : List PyData) (d : PyData), Room 3 (A.deeper (envOfC "is_range" (defScope s_is_range) s.heap.objs.size f cdv)) → DvAll K R vs ds → preRange ds d →
      BD (dcx P w K mg base n_is_range "is_range" (defScope s_is_range) f cdv A outer s H E) (defBody s_is_range) (start n_is_range vs) R d := by
    intro f cdv A outer s H E vs R ds d hr dv h
    obtain ⟨t, rfl, ht, rfl⟩ := h
    obtain ⟨v, rfl, a⟩ := DvAll.one' dv
    cases h4 : dIsTup t with
    | false =>
      have e : rangeM t = false := by
        unfold rangeM
        split
        · cases h4
        · rfl
      rw [e]
      refine bd_if (b := true) (PTD.eq (ptd_or (y := true) (ptd_not (ptd (pd_isTup B (pd_var 0 rfl a)))) fun z => by rw [h4] at z; cases z) (by rw [h4]; rfl)) (fun _ => bd_ret pd_bool) fun z => by cases z
    | true =>
      obtain ⟨ds, rfl⟩ : ∃ ds, t = .tuple ds := by
        cases t with
        | tuple ds => exact ⟨ds, rfl⟩
        | _ => cases h4
      have hl' : ds.length ≤ sizeLine := Nat.le_trans (fin_t.mp ht).1 (by decide)
      refine bd_if (b := !ds.all fun d => (pairM d).isSome) (PTD.eq (ptd_or (ptd_not (ptd (pd_isTup B (pd_var 0 rfl a)))) fun _ => pwd_or1 (ptd_not (ptd (pd_all (bs := ds.map fun d => (pairM d).isSome) rfl B (PD.eq (pd_lc (own := [("pair", 1)]) (f := fun d => some (.bool (pairM d).isSome)) rfl c_is_range.nd (pid_seq (pd_var 0 rfl a) .t) (blkOk_by (by show blkC n_is_range (defScope s_is_range) _ _ = true; decide +kernel)) hl' (fun _ _ _ _ _ => pg_name (i := 1) c_is_range.nd rfl (Or.inl rfl))
        (fun d v R1 H1 kk hd s1 s2 dv q2 => q2 _ rfl (lcb_all fun _ _ _ _ _ => pd_call F1 hr (pds_one (pd_var 1 rfl dv)) ⟨d, rfl, rfl⟩))) (by rw [filterMap_some fun d => PyData.bool (pairM d).isSome, List.map_map]; rfl)))))) (by rw [h4, List.all_map]; rfl)) (fun q => ?_) fun q => ?_
      · have hn : (ds.all fun d => (pairM d).isSome) = false := by simpa using q
        have e : rangeM (.tuple ds) = false := by show (_ && _) = false; rw [hn]; rfl
        rw [e]
        exact bd_ret pd_bool
      · have hn : (ds.all fun d => (pairM d).isSome) = true := by simpa using q
        have e : rangeM (.tuple ds) = chainM (ds.filterMap pairM) := by show (_ && _) = _; rw [hn]; rfl
        have hls : (ds.filterMap pairM).length ≤ sizeLine := Nat.le_trans (List.length_filterMap_le ..) hl'
        rw [e]
        rw [pairs_enc hn] at a
        generalize ds.filterMap pairM = sp at a hls
        refine bd_ret (PD.eq (pd_all (bs := (List.zip sp sp.tail).map fun z => chainB z.1 z.2) rfl B ?_) (by rw [List.all_map]; rfl))
        refine PD.eq (pd_lcT (l := List.zip sp sp.tail) (enc := fun z => .tuple [encP z.1, encP z.2]) (own := [("near", 2), ("far", 3)]) (g := gTup K 2 (gCons (gName 2) (gCons (gName 3) gNil))) (f := fun z => some (.bool (chainB z.1 z.2))) rfl c_is_range.nd ?_ (blkOk_by (by show blkC n_is_range (defScope s_is_range) _ _ = true; decide +kernel)) ?_
            (fun _ _ _ _ _ => pg2 2 3 rfl c_is_range.nd) (fun z v R1 H1 kk hd s1 s2 dv q2 => ?_)) ?_
        · rw [← zipD_encPs]
          exact pid_zip B (pd_var 0 rfl a) .t (PD.eq (pd_sliceT (pd_var 0 rfl a) (pod_some pd_int) pod_none) (by rw [cut1, encPs, ← List.map_tail] <;> rfl)) .t
        · rw [List.length_zip]; omega
        · obtain ⟨near, far⟩ := z
          refine g_two s2 dv fun v1 v2 h1 h2 => q2 _ rfl (lcb_all fun _ _ _ _ _ => ?_)
          obtain ⟨nl, nh⟩ := near
          cases nh with
          | none => exact PD.eq (pd_and (y := false) (pd_notN (pd_ix (pd_var 2 rfl h1) pd_int .t rfl)) fun z => by cases z) rfl
          | some x => exact PD.eq (pd_and (pd_notN (pd_ix (pd_var 2 rfl h1) pd_int .t rfl)) fun _ => pd_one (pd_ltT hr.units0 (pd_ix (pd_var 2 rfl h1) pd_int .t rfl) (pd_ix (pd_var 3 rfl h2) pd_int .t rfl))) (by rw [lexLt_eq]; rfl)
        · rw [filterMap_some (fun z : Pr × Pr => PyData.bool (chainB z.1 z.2)), List.map_map]
          rfl
  refine ⟨df_mk F c_is_range (fun ds d h => ?_) body, df_mkK F c_is_range (fun kV doc pm an cdv ct u => ⟨rfl, rfl⟩) (fun ds d h => ?_) body⟩
  · obtain ⟨t, rfl, _⟩ := h; rfl
  · obtain ⟨t, rfl, _⟩ := h; rfl
end
end NF

set_option Elab.async false
set_option linter.all false
set_option maxRecDepth 100000
set_option maxHeartbeats 2000000
namespace NF
open PySem PySem.Spec PyProof.Rows L2
def rawM : PyData → Option Pr
  | .tuple [x, y] => match verM x with
    | none => none
    | some a => if isNon y = true then some (a, none) else match verM y with
      | none => none
      | some b => some (a, some b)
  | _ => none
theorem rawM_eq {t : PyData} {p : Pr} (h : rawM t = some p) : t = encP p := by
  unfold rawM at h
  split at h
  · rename_i x y
    split at h
    · cases h
    · rename_i a ha
      obtain ⟨rfl, _⟩ := verM_eq ha
      split at h
      · rename_i hy
        cases h
        rw [isNon_eq hy]
        rfl
      · split at h
        · cases h
        · rename_i b hb
          obtain ⟨rfl, _⟩ := verM_eq hb
          cases h; rfl
  · cases h
theorem pairM_raw (t : PyData) : pairM t = (rawM t).bind fun p => if goodP p = true then some p else none := by
  by_cases h : ∃ x y, t = .tuple [x, y]
  · obtain ⟨x, y, rfl⟩ := h
    show (match verM x with
      | none => none
      | some a => if isNon y = true then some (a, none) else match verM y with
        | none => none
        | some b => if a < b then some (a, some b) else none) = (match verM x with
      | none => none
      | some a => if isNon y = true then some (a, none) else match verM y with
        | none => none
        | some b => some (a, some b)).bind fun p => if goodP p = true then some p else none
    cases hx : verM x with
    | none => rfl
    | some a =>
      cases hy : isNon y with
      | true => rfl
      | false =>
        cases hz : verM y with
        | none => rfl
        | some b =>
          show (if a < b then some (a, some b) else none) = (if decide (a < b) = true then some (a, some b) else none)
          by_cases h : a < b
          · rw [if_pos h, if_pos (decide_eq_true h)]
          · rw [if_neg h, if_neg (by rw [decide_eq_false h]; exact Bool.false_ne_true)]
  · have e1 : pairM t = none := by
      unfold pairM
      split
      · exact absurd ⟨_, _, rfl⟩ h
      · rfl
    have e2 : rawM t = none := by
      unfold rawM
      split
      · exact absurd ⟨_, _, rfl⟩ h
      · rfl
    rw [e1, e2]
    rfl
theorem raws_enc : ∀ {ds : List PyData}, (ds.all fun d => (rawM d).isSome) = true → ds = encPs (ds.filterMap rawM)
  | [], _ => rfl
  | d :: ds, h => by
    rw [List.all_cons, Bool.and_eq_true] at h
    obtain ⟨p, hp⟩ := Option.isSome_iff_exists.mp h.1
    rw [List.filterMap_cons_some hp]
    show d :: ds = encP p :: encPs (ds.filterMap rawM)
    rw [← rawM_eq hp, ← raws_enc h.2]
theorem raws_pairs : ∀ {ds : List PyData}, (ds.all fun d => (rawM d).isSome) = true → (ds.all fun d => (pairM d).isSome) = (ds.filterMap rawM).all goodP ∧ ((ds.filterMap rawM).all goodP = true → ds.filterMap pairM = ds.filterMap rawM)
  | [], _ => ⟨rfl, fun _ => rfl⟩
  | d :: ds, h => by
    rw [List.all_cons, Bool.and_eq_true] at h
    obtain ⟨p, hp⟩ := Option.isSome_iff_exists.mp h.1
    obtain ⟨i1, i2⟩ := raws_pairs h.2
    have e := pairM_raw d
    rw [hp] at e
    rw [List.filterMap_cons_some hp, List.all_cons, List.all_cons, i1]
    cases hg : goodP p with
    | true =>
      have e' : pairM d = some p := by rw [e]; simp [hg]
      refine ⟨by rw [e']; rfl, fun z => ?_⟩
      rw [List.filterMap_cons_some e', i2 (by simpa using z)]
    | false =>
      have e' : pairM d = none := by rw [e]; simp [hg]
      exact ⟨by rw [e']; rfl, fun z => by simp at z⟩
theorem range_raw {ds : List PyData} (h : (ds.all fun d => (rawM d).isSome) = true) : rangeM (.tuple ds) = ((ds.filterMap rawM).all goodP && chainM (ds.filterMap rawM)) := by
  obtain ⟨i1, i2⟩ := raws_pairs h
  show ((ds.all fun d => (pairM d).isSome) && chainM (ds.filterMap pairM)) = _
  rw [i1]
  cases hg : (ds.filterMap rawM).all goodP with
  | true => rw [i2 hg]
  | false => rfl
theorem range_noraw {ds : List PyData} (h : (ds.all fun d => (rawM d).isSome) = false) : rangeM (.tuple ds) = false := by
  have : (ds.all fun d => (pairM d).isSome) = false := by
    cases q : (ds.all fun d => (pairM d).isSome) with
    | false => rfl
    | true =>
      rw [List.all_eq_true] at q
      have : (ds.all fun d => (rawM d).isSome) = true := by
        rw [List.all_eq_true]
        intro d hd
        have := q d hd
        rw [pairM_raw] at this
        cases hr : rawM d with
        | none => rw [hr] at this; cases this
        | some _ => rfl
      rw [h] at this
      cases this
  show (_ && _) = false
  rw [this]
  rfl
def twoB (d : PyData) : Bool := tupOf d 2
def verB : PyData → Bool
  | .tuple [x, y] => (verM x).isSome && (isNon y || (verM y).isSome)
  | _ => false
theorem rawM_two {d : PyData} : (rawM d).isSome = (twoB d && verB d) := by
  unfold rawM
  split
  · rename_i x y
    show _ = (true && ((verM x).isSome && (isNon y || (verM y).isSome)))
    cases hx : verM x with
    | none => rfl
    | some a =>
      cases hy : isNon y with
      | true => rfl
      | false =>
        cases hz : verM y with
        | none => rfl
        | some b => rfl
  · rename_i h
    have : verB d = false := by
      unfold verB
      split
      · exact absurd rfl (h _ _)
      · rfl
    rw [this, Bool.and_false]
    rfl
section
variable {P : Program} {w : World} {K : PySem.W.Frag} {mg : Str → Option Value} {base : Heap}
theorem df_law_is_version (F : At K mg "_law_is_version" s_law_is_version ["_law_own"]) (B : Blt mg) (F2 : Df P w K mg base 1 "_law_is_number" ["_law_own"] (spD K (pre1 fun t => .bool (isNum t)))) :
    Df P w K mg base 2 "_law_is_version" ["_law_own"] (spD K preVer) := by
  refine df_mk F c_law_is_version (fun ds d h => ?_) fun f cdv A outer s H E vs R ds d hr dv h => ?_
  · obtain ⟨t, rfl, _⟩ := h; rfl
  · obtain ⟨t, rfl, rfl⟩ := h
    obtain ⟨v, rfl, a⟩ := DvAll.one' dv
    cases ht : dIsTup t with
    | false =>
      have e : tupOf t 4 = false := by cases t <;> first | rfl | cases ht
      rw [verM_not (.inl e)]
      refine bd_if (b := true) (PTD.eq (ptd_or (y := true) (ptd_not (ptd (pd_isTup B (pd_var 0 rfl a)))) fun z => by rw [ht] at z; cases z) (by rw [ht]; rfl)) (fun _ => bd_ret pd_bool) fun z => by cases z
    | true =>
      obtain ⟨ds, rfl⟩ : ∃ ds, t = .tuple ds := by
        cases t with
        | tuple ds => exact ⟨ds, rfl⟩
        | _ => cases ht
      cases h4 : tupOf (.tuple ds) 4 with
      | false =>
        have en : PyData.eqv (.int (ds.length : Int)) (.int 4) = false := h4
        rw [verM_not (.inl h4)]
        refine bd_if (b := true) (PTD.eq (ptd_or (ptd_not (ptd (pd_isTup B (pd_var 0 rfl a)))) fun _ => pwd_or (y := true) (ptd_ne hr.units (pd_len B (pd_var 0 rfl a) .t) pd_int rfl rfl) fun z => by rw [en] at z; cases z) (by rw [en]; rfl)) (fun _ => bd_ret pd_bool) fun z => by cases z
      | true =>
        have en : PyData.eqv (.int (ds.length : Int)) (.int 4) = true := h4
        obtain ⟨_, e0, hl⟩ := tup_size h4
        cases e0
        have hl' : ds.length ≤ sizeLine := by have : ds.length = 4 := by omega
                                              rw [this]; decide
        refine bd_if (b := !ds.all isNum) (PTD.eq (ptd_or (ptd_not (ptd (pd_isTup B (pd_var 0 rfl a)))) fun _ => pwd_or (ptd_ne hr.units (pd_len B (pd_var 0 rfl a) .t) pd_int rfl rfl) fun _ => pwd_or1 (ptd_not (ptd (pd_all (bs := ds.map isNum) rfl B (PD.eq (pd_lc (own := [("_law_bit", 1)]) (f := fun d => some (.bool (isNum d))) rfl c_law_is_version.nd (pid_seq (pd_var 0 rfl a) .t) (blkOk_by (by show blkC n_law_is_version (defScope s_law_is_version) _ _ = true; decide +kernel)) hl' (fun _ _ _ _ _ => pg_name (i := 1) c_law_is_version.nd rfl (Or.inl rfl))
          (fun d v R1 H1 kk hd s1 s2 dv q2 => q2 _ rfl (lcb_all fun _ _ _ _ _ => pd_call F2 hr (pds_one (pd_var 1 rfl dv)) ⟨d, rfl, rfl⟩))) (by rw [filterMap_some fun d => PyData.bool (isNum d), List.map_map]; rfl)))))) (by rw [en, List.all_map]; rfl)) (fun q => ?_) fun q => ?_
        · have hn : ds.all isNum = false := by simpa using q
          rw [verM_not (.inr ⟨ds, rfl, hn⟩)]
          exact bd_ret pd_bool
        · have hn : ds.all isNum = true := by simpa using q
          obtain ⟨x, y, z, u, rfl⟩ := size4 hl
          simp only [List.all_cons, List.all_nil, Bool.and_true, Bool.and_eq_true] at hn
          obtain ⟨i, rfl⟩ := num_int hn.1
          obtain ⟨j, rfl⟩ := num_int hn.2.1
          obtain ⟨l, rfl⟩ := num_int hn.2.2.1
          obtain ⟨e, rfl⟩ := num_int hn.2.2.2
          refine bd_ret (PD.eq (pd_and (pd_ge (pd_min (ns := [i, j, l]) rfl B (PD.eq (pd_sliceT (pd_var 0 rfl a) pod_none (pod_some pd_int)) rfl) (min3_mem i j l) (min3_le i j l)) pd_int) fun _ => pd_one (pd_chain (z1 := decide (-9 ≤ e)) (z2 := decide (e ≤ 0)) op_le op_le (pd_neg pd_int) (pd_ix (pd_var 0 rfl a) pd_int .t rfl) pd_int (fun x y H1 Q h1 h2 q => ?_) (fun x y H1 Q h1 h2 q => ?_))) ?_)
          · cases h1; cases h2; exact ⟨_, _, rfl, rfl, q⟩
          · cases h1; cases h2; exact ⟨_, _, rfl, rfl, q⟩
          · rw [verM_four]
theorem df_law_is_span (F : At K mg "_law_is_span" s_law_is_span ["_law_own"]) (B : Blt mg) (F1 : Df P w K mg base 2 "_law_is_version" ["_law_own"] (spD K preVer)) : Df P w K mg base 3 "_law_is_span" ["_law_own"] (spD K preRange) := by
  refine df_mk F c_law_is_span (fun ds d h => ?_) fun f cdv A outer s H E vs R ds d hr dv h => ?_
  · obtain ⟨t, rfl, _⟩ := h; rfl
  · obtain ⟨t, rfl, ht, rfl⟩ := h
    obtain ⟨v, rfl, a⟩ := DvAll.one' dv
    cases h4 : dIsTup t with
    | false =>
      have e : rangeM t = false := by
        unfold rangeM
        split
        · cases h4
        · rfl
      rw [e]
      refine bd_if (b := true) (PTD.eq (ptd_or (y := true) (ptd_not (ptd (pd_isTup B (pd_var 0 rfl a)))) fun z => by rw [h4] at z; cases z) (by rw [h4]; rfl)) (fun _ => bd_ret pd_bool) fun z => by cases z
    | true =>
      obtain ⟨ds, rfl⟩ : ∃ ds, t = .tuple ds := by
        cases t with
        | tuple ds => exact ⟨ds, rfl⟩
        | _ => cases h4
      have hl' : ds.length ≤ sizeLine := Nat.le_trans (fin_t.mp ht).1 (by decide)
      -- one pass: all of them pairs
      refine bd_if (b := !ds.all twoB) (PTD.eq (ptd_or (ptd_not (ptd (pd_isTup B (pd_var 0 rfl a)))) fun _ => pwd_or1 (ptd_not (ptd (pd_all (bs := ds.map twoB) rfl B (PD.eq (pd_lc (own := [("_law_bit", 1)]) (f := fun d => some (.bool (twoB d))) rfl c_law_is_span.nd (pid_seq (pd_var 0 rfl a) .t) (blkOk_by (by show blkC n_law_is_span (defScope s_law_is_span) _ _ = true; decide +kernel)) hl' (fun _ _ _ _ _ => pg_name (i := 1) c_law_is_span.nd rfl (Or.inl rfl))
        (fun d v R1 H1 kk hd s1 s2 dv q2 => q2 _ rfl (lcb_all fun _ _ _ _ _ => ?_))) (by rw [filterMap_some fun d => PyData.bool (twoB d), List.map_map]; rfl)))))) (by rw [h4, List.all_map]; rfl)) (fun q => ?_) fun q => ?_
      · cases htu : dIsTup d with
        | false =>
          have e : twoB d = false := by cases d <;> first | rfl | cases htu
          exact PD.eq (pd_and (y := false) (pd_isTup B (pd_var 1 rfl dv)) fun z => by rw [htu] at z; cases z) (by rw [htu, e]; rfl)
        | true =>
          obtain ⟨es, rfl⟩ : ∃ es, d = .tuple es := by
            cases d with
            | tuple es => exact ⟨es, rfl⟩
            | _ => cases htu
          exact PD.eq (pd_and (pd_isTup B (pd_var 1 rfl dv)) fun _ => pd_one (pd_eq hr.units (pd_len B (pd_var 1 rfl dv) .t) pd_int rfl rfl)) rfl
      · have hn : ds.all twoB = false := by simpa using q
        have hr0 : (ds.all fun d => (rawM d).isSome) = false := by
          cases z : (ds.all fun d => (rawM d).isSome) with
          | false => rfl
          | true =>
            rw [List.all_eq_true] at z
            have : ds.all twoB = true := by
              rw [List.all_eq_true]
              intro d hd
              have := z d hd
              rw [rawM_two, Bool.and_eq_true] at this
              exact this.1
            rw [hn] at this; cases this
        rw [range_noraw hr0]
        exact bd_ret pd_bool
      · have hn : ds.all twoB = true := by simpa using q
        have hn' := List.all_eq_true.mp hn
        -- two: their versions
        refine bd_if (b := !ds.all verB) (PTD.eq (ptd_not (ptd (pd_all (bs := ds.map verB) rfl B (PD.eq (pd_lc (own := [("_law_bit", 1)]) (f := fun d => some (.bool (verB d))) rfl c_law_is_span.nd (pid_seq (pd_var 0 rfl a) .t) (blkOk_by (by show blkC n_law_is_span (defScope s_law_is_span) _ _ = true; decide +kernel)) hl' (fun _ _ _ _ _ => pg_name (i := 1) c_law_is_span.nd rfl (Or.inl rfl))
          (fun d v R1 H1 kk hd s1 s2 dv q2 => q2 _ rfl (lcb_all fun _ _ _ _ _ => ?_))) (by rw [filterMap_some fun d => PyData.bool (verB d), List.map_map]; rfl))))) (by rw [List.all_map]; rfl)) (fun q => ?_) fun q => ?_
        · obtain ⟨es, rfl, hl⟩ := tup_size (hn' d hd)
          obtain ⟨x, y, rfl⟩ := size2 hl
          exact PD.eq (pd_and (pd_call F1 hr (pds_one (pd_ix (pd_var 1 rfl dv) pd_int .t rfl)) ⟨x, rfl, rfl⟩) fun _ => pd_one (pd_or (pd_isN (pd_ix (pd_var 1 rfl dv) pd_int .t rfl)) fun _ => pd_one (pd_call F1 hr (pds_one (pd_ix (pd_var 1 rfl dv) pd_int .t rfl)) ⟨y, rfl, rfl⟩))) rfl
        · have hv : ds.all verB = false := by simpa using q
          have hr0 : (ds.all fun d => (rawM d).isSome) = false := by
            cases z : (ds.all fun d => (rawM d).isSome) with
            | false => rfl
            | true =>
              rw [List.all_eq_true] at z
              have : ds.all verB = true := by
                rw [List.all_eq_true]
                intro d hd
                have := z d hd
                rw [rawM_two, Bool.and_eq_true] at this
                exact this.2
              rw [hv] at this; cases this
          rw [range_noraw hr0]
          exact bd_ret pd_bool
        · have hv : ds.all verB = true := by simpa using q
          have hv' := List.all_eq_true.mp hv
          have hr1 : (ds.all fun d => (rawM d).isSome) = true := by
            rw [List.all_eq_true]
            intro d hd
            rw [rawM_two, hn' d hd, hv' d hd]
            rfl
          have hls : (ds.filterMap rawM).length ≤ sizeLine := Nat.le_trans (List.length_filterMap_le ..) hl'
          rw [range_raw hr1]
          rw [raws_enc hr1] at a
          generalize ds.filterMap rawM = sp at a hls
          -- three: each pair ascends
          refine bd_if (b := !sp.all goodP) (PTD.eq (ptd_not (ptd (pd_all (bs := sp.map goodP) rfl B (PD.eq (pd_lcT (l := sp) (enc := encP) (own := [("_law_bit", 1)]) (f := fun p => some (.bool (goodP p))) rfl c_law_is_span.nd (pid_seq (pd_var 0 rfl a) .t) (blkOk_by (by show blkC n_law_is_span (defScope s_law_is_span) _ _ = true; decide +kernel)) hls (fun _ _ _ _ _ => pg_name (i := 1) c_law_is_span.nd rfl (Or.inl rfl))
            (fun p v R1 H1 kk hd s1 s2 dv q2 => q2 _ rfl (lcb_all fun _ _ _ _ _ => ?_))) (by rw [filterMap_some fun p : Pr => PyData.bool (goodP p), List.map_map]; rfl))))) (by rw [List.all_map]; rfl)) (fun q => ?_) fun q => ?_
          · obtain ⟨lo, hi⟩ := p
            cases hi with
            | none => exact PD.eq (pd_or (y := true) (pd_isN (pd_ix (pd_var 1 rfl dv) pd_int .t rfl)) fun z => by cases z) rfl
            | some x => exact PD.eq (pd_or (pd_isN (pd_ix (pd_var 1 rfl dv) pd_int .t rfl)) fun _ => pd_one (pd_ltT hr.units0 (pd_ix (pd_var 1 rfl dv) pd_int .t rfl) (pd_ix (pd_var 1 rfl dv) pd_int .t rfl))) (by rw [lexLt_eq]; rfl)
          · have hg : sp.all goodP = false := by simpa using q
            rw [hg]
            exact bd_ret pd_bool
          · have hg : sp.all goodP = true := by simpa using q
            rw [hg, Bool.true_and]
            refine bd_ret (PD.eq (pd_all (bs := (List.zip sp sp.tail).map fun z => chainB z.1 z.2) rfl B ?_) (by rw [List.all_map]; rfl))
            refine PD.eq (pd_lcT (l := List.zip sp sp.tail) (enc := fun z => .tuple [encP z.1, encP z.2]) (own := [("_law_near_so", 2), ("_law_far_so", 3)]) (g := gTup K 2 (gCons (gName 2) (gCons (gName 3) gNil))) (f := fun z => some (.bool (chainB z.1 z.2))) rfl c_law_is_span.nd ?_ (blkOk_by (by show blkC n_law_is_span (defScope s_law_is_span) _ _ = true; decide +kernel)) ?_
                (fun _ _ _ _ _ => pg2 2 3 rfl c_law_is_span.nd) (fun z v R1 H1 kk hd s1 s2 dv q2 => ?_)) ?_
            · rw [← zipD_encPs]
              exact pid_zip B (pd_var 0 rfl a) .t (PD.eq (pd_sliceT (pd_var 0 rfl a) (pod_some pd_int) pod_none) (by rw [cut1, encPs, ← List.map_tail] <;> rfl)) .t
            · rw [List.length_zip]; omega
            · obtain ⟨near, far⟩ := z
              refine g_two s2 dv fun v1 v2 h1 h2 => q2 _ rfl (lcb_all fun _ _ _ _ _ => ?_)
              obtain ⟨nl, nh⟩ := near
              cases nh with
              | none => exact PD.eq (pd_and (y := false) (pd_notN (pd_ix (pd_var 2 rfl h1) pd_int .t rfl)) fun z => by cases z) rfl
              | some x => exact PD.eq (pd_and (pd_notN (pd_ix (pd_var 2 rfl h1) pd_int .t rfl)) fun _ => pd_one (pd_ltT hr.units0 (pd_ix (pd_var 2 rfl h1) pd_int .t rfl) (pd_ix (pd_var 3 rfl h2) pd_int .t rfl))) (by rw [lexLt_eq]; rfl)
            · rw [filterMap_some (fun z : Pr × Pr => PyData.bool (chainB z.1 z.2)), List.map_map]
              rfl
end
end NF

set_option Elab.async false
set_option linter.all false
set_option maxRecDepth 100000
set_option maxHeartbeats 2000000
namespace NF
open PySem PySem.Spec PyProof.Rows L2
theorem lt_line {n : Nat} (h : n < 1000) : n < sizeLine := Nat.lt_of_lt_of_le h (by decide)
theorem ends_take {ss : List Span} {i : Nat} {s : Span} (h : ss[i]? = some s) : ends (ss.take (i + 1)) = ends (ss.take i) ++ endsS s := by
  unfold ends
  rw [take_next h, List.flatMap_append]
  simp
theorem endsS_take {s : Span} {i : Nat} {p : Pr} (h : s[i]? = some p) : endsS (s.take (i + 1)) = endsS (s.take i) ++ endsP p := by
  unfold endsS
  rw [take_next h, List.flatMap_append]
  simp
theorem ends_take_le (ss : List Span) (i : Nat) : (ends (ss.take i)).length ≤ (ends ss).length := by
  have : ends ss = ends (ss.take i) ++ ends (ss.drop i) := by unfold ends; rw [← List.flatMap_append, List.take_append_drop]
  rw [this, List.length_append]
  exact Nat.le_add_right _ _
theorem endsS_take_le (s : Span) (i : Nat) : (endsS (s.take i)).length ≤ (endsS s).length := by
  have : endsS s = endsS (s.take i) ++ endsS (s.drop i) := by unfold endsS; rw [← List.flatMap_append, List.take_append_drop]
  rw [this, List.length_append]
  exact Nat.le_add_right _ _
theorem strL_zip : ∀ cs : List Ver, List.zip cs (cs.tail.map some ++ [none]) = strL cs
  | [] => rfl
  | [c] => rfl
  | c :: d :: r => by
    show (c, some d) :: List.zip (d :: r) (r.map some ++ [none]) = (c, some d) :: strL (d :: r)
    have := strL_zip (d :: r)
    exact congrArg _ this
section
variable {P : Program} {w : World} {K : PySem.W.Frag} {mg : Str → Option Value} {base : Heap}
def preHolds : List PyData → PyData → Prop := fun ds d => ∃ p v, ds = [encP p, tupI v] ∧ d = .bool (holdsP p v)
def preInn : List PyData → PyData → Prop := fun ds d => ∃ s v, ds = [encS s, tupI v] ∧ s.length ≤ 1000 ∧ d = .bool (inn s v)
def preCuts : List PyData → PyData → Prop := fun ds d => ∃ ss, ds = [encSs ss] ∧ SsOk ss ∧ d = .list ((cuts ss).map tupI)
theorem df_pair_holds (F : At K mg "pair_holds" s_pair_holds ["pair", "version"]) (B : Blt mg) : Df P w K mg base 1 "pair_holds" ["pair", "version"] (spD K preHolds) := by
  refine df_mk F c_pair_holds (fun ds d h => ?_) fun f cdv A outer s H E vs R ds d hr dv h => ?_
  · obtain ⟨p, v, rfl, _⟩ := h; rfl
  · obtain ⟨p, x, rfl, rfl⟩ := h
    obtain ⟨v, u, rfl, a, b⟩ := DvAll.two' dv
    obtain ⟨lo, hi⟩ := p
    cases hi with
    | none => exact bd_ret (PD.eq (pd_and (pd_leT hr.units0 (pd_ix (pd_var 0 rfl a) pd_int .t rfl) (pd_var 1 rfl b)) fun _ => pd_one (pd_or (y := true) (pd_isN (pd_ix (pd_var 0 rfl a) pd_int .t rfl)) fun z => by cases z)) (by rw [lexLeI_eq]; rfl))
    | some h => exact bd_ret (PD.eq (pd_and (pd_leT hr.units0 (pd_ix (pd_var 0 rfl a) pd_int .t rfl) (pd_var 1 rfl b)) fun _ => pd_one (pd_or (pd_isN (pd_ix (pd_var 0 rfl a) pd_int .t rfl)) fun _ => pd_one (pd_ltT hr.units0 (pd_var 1 rfl b) (pd_ix (pd_var 0 rfl a) pd_int .t rfl)))) (by rw [lexLeI_eq, lexLt_eq]; rfl))
theorem df_span_holds (F : At K mg "span_holds" s_span_holds ["span", "version"]) (B : Blt mg) (F1 : Df P w K mg base 1 "pair_holds" ["pair", "version"] (spD K preHolds)) : Df P w K mg base 2 "span_holds" ["span", "version"] (spD K preInn) := by
  refine df_mk F c_span_holds (fun ds d h => ?_) fun f cdv A outer s H E vs R ds d hr dv h => ?_
  · obtain ⟨p, v, rfl, _⟩ := h; rfl
  · obtain ⟨sp, x, rfl, hl, rfl⟩ := h
    obtain ⟨v, u, rfl, a, b⟩ := DvAll.two' dv
    refine bd_ret (PD.eq (pd_any (bs := sp.map fun p => holdsP p x) rfl B (PD.eq (pd_lcT (l := sp) (enc := encP) (own := [("pair", 2)]) (f := fun p => some (.bool (holdsP p x))) rfl c_span_holds.nd (pid_seq (pd_var 0 rfl a) .t) (blkOk_by (by show blkC n_span_holds (defScope s_span_holds) _ _ = true; decide +kernel)) (Nat.le_trans hl (by decide)) (fun _ _ _ _ _ => pg_name (i := 2) c_span_holds.nd rfl (Or.inl rfl))
      (fun p v R1 H1 kk hd s1 s2 dv q2 => q2 _ rfl (lcb_all fun _ _ _ _ _ => pd_call F1 hr (pds_cons (pd_var 2 rfl dv) (pds_one (pd_var 1 rfl (Dv_mono s1 b)))) ⟨p, x, rfl, rfl⟩))) (by rw [filterMap_some fun p : Pr => PyData.bool (holdsP p x), List.map_map]; rfl))) (by rw [List.any_map]; rfl))
theorem df_cuts_in (F : At K mg "cuts_in" s_cuts_in ["spans"]) (B : Blt mg) (G : Gls K mg) : Df P w K mg base 1 "cuts_in" ["spans"] (spD K preCuts) := by
  refine df_sw F c_cuts_in (fun ds d h => ?_) fun f cdv A outer s H E vs R ds d hr dv h => ?_
  · obtain ⟨p, rfl, _⟩ := h; rfl
  · obtain ⟨ss, rfl, ok, rfl⟩ := h
    obtain ⟨v, rfl, a⟩ := DvAll.one' dv
    obtain ⟨g0, hg0, sg0⟩ := G.first
    have hu1 : (A.deeper (envOfC "cuts_in" (defScope s_cuts_in) s.heap.objs.size f cdv)).units + 1 < cLine := by have := hr.units; omega
    refine sw_dict1 (v := first) 1 hu1 c_cuts_in.nd (pd_glob (v := V.ref g0) hg0 rfl (.tup (sg0 R) (DvAll.ofInts _))) fun l q0 R1 s1 dk h0 hP hR => ?_
    refine sw_forT (l := ss) (enc := encS) (fun i σ R => ∃ L u2 u3 u4, σ = [some v, some (V.ref l), u2, u3, u4] ∧ DK _ R l L ∧ (∀ x, x ∈ L.map (·.2) ↔ x = first ∨ x ∈ ends (ss.take i)) ∧ L.length ≤ 1 + (ends (ss.take i)).length)
      PassesOwn.never rfl (pid_seq (pd_var 0 rfl a) .t) (pg_name (i := 2) c_cuts_in.nd rfl (Or.inl rfl)) (fun R2 s2 => ⟨[(q0, first)], none, none, none, rfl, dk.mono s2, fun x => by simp [ends], by simp [ends]⟩)
      (fun i σ R R' h s => ?_) (fun i sp u j σ' R' P1 H1 k hsp hfree pv sP1 du sH kk => ?_) (fun j σ' R' pv sP => ?_)
    · obtain ⟨L, u2, u3, u4, e, d1, d2, d3⟩ := h
      exact ⟨L, u2, u3, u4, e, d1.mono s, d2, d3⟩
    · obtain ⟨L, u2, u3, u4, rfl, d1, d2, d3⟩ := pv
      refine kk _ ?_
      have hsl : (ends (ss.take (i + 1))).length ≤ 62 := Nat.le_trans (ends_take_le ss (i + 1)) ok.few
      rw [ends_take hsp, List.length_append] at hsl
      have hP1 : P1 l = none := hfree l (by rw [dk.1]; exact fun z => nomatch z) hP
      refine sw_cut hP1 sP1 ?_
      refine sw_forT (l := sp) (enc := encP) (fun i' σ R => ∃ L u3 u4, σ = [some v, some (V.ref l), some u, u3, u4] ∧ DK _ R l L ∧ (∀ x, x ∈ L.map (·.2) ↔ x = first ∨ x ∈ ends (ss.take i) ∨ x ∈ endsS (sp.take i')) ∧ L.length ≤ 1 + (ends (ss.take i)).length + (endsS (sp.take i')).length)
        PassesOwn.never rfl (pid_seq (pd_var 2 rfl (du.cutX d1.1)) .t) (pg2 3 4 rfl c_cuts_in.nd) (fun R2 s2 => ⟨L, u3, u4, rfl, d1.mono s2, fun x => by rw [d2]; simp [endsS], by simpa [endsS] using d3⟩)
        (fun i σ R R' h s => ?_) (fun i' p u' j' σ' R2 P2 H2 k2 hp hfree2 pv2 sP2 du2 sH2 kk2 => ?_) (fun j' σ' R2 pv2 sP2 => ?_)
      · obtain ⟨L, u3, u4, e, d1, d2, d3⟩ := h
        exact ⟨L, u3, u4, e, d1.mono s, d2, d3⟩
      · obtain ⟨L, u3, u4, rfl, d1', d2', d3'⟩ := pv2
        obtain ⟨lo, hi⟩ := p
        have hP2 : P2 l = none := hfree2 l (by rw [d1.1]; exact fun z => nomatch z) cut_l
        have hel : (endsS (sp.take (i' + 1))).length ≤ (endsS sp).length := endsS_take_le sp (i' + 1)
        rw [endsS_take hp, List.length_append] at hel
        have he2 : (endsP (lo, hi)).length = 1 + hi.toList.length := by show (lo :: hi.toList).length = _; rw [List.length_cons]; omega
        rw [he2] at hel
        refine g_two sH2 du2 fun v1 v2 h1 h2 => kk2 _ ?_
        refine sw_dput (v := lo) (i := 1) (j := 3) hu1 rfl d1' h0 hP2 (lt_line (by show L.length < 1000; omega)) rfl h1 fun R3 q1 hover d4 hfr => ?_
        have hk4 : ∀ x, x ∈ (addK L q1 lo).map (·.2) ↔ x = first ∨ x ∈ ends (ss.take i) ∨ x ∈ endsS (sp.take i') ∨ x = lo := fun x => by
          rw [addK_keys, d2']
          constructor
          · rintro ((z | z | z) | z)
            · exact .inl z
            · exact .inr (.inl z)
            · exact .inr (.inr (.inl z))
            · exact .inr (.inr (.inr z))
          · rintro (z | z | z | z)
            · exact .inl (.inl z)
            · exact .inl (.inr (.inl z))
            · exact .inl (.inr (.inr z))
            · exact .inr z
        have hk5 := addK_len L q1 lo
        cases hi with
        | none =>
          refine sw_ifD (M := fun m σ' R' => ∃ L u3 u4, σ' = [some v, some (V.ref l), some u, u3, u4] ∧ DK _ R' l L ∧ (∀ x, x ∈ L.map (·.2) ↔ x = first ∨ x ∈ ends (ss.take i) ∨ x ∈ endsS (sp.take (i' + 1))) ∧ L.length ≤ 1 + (ends (ss.take i)).length + (endsS (sp.take (i' + 1))).length) (b := false) (ptd_notN (pd_var 4 rfl (hover _ _ h2))) (fun z => by cases z) (fun _ R4 s4 => sw_nil ⟨addK L q1 lo, some v1, some v2, rfl, d4.mono s4, fun x => ?_, ?_⟩) (fun m σ' R' _ h => sw_nil h)
          · rw [hk4, endsS_take hp, List.mem_append]
            simp [endsP]
          · rw [endsS_take hp, List.length_append, he2]
            simp only [Option.toList_none, List.length_nil]
            omega
        | some h =>
          refine sw_ifD (M := fun m σ' R' => ∃ L u3 u4, σ' = [some v, some (V.ref l), some u, u3, u4] ∧ DK _ R' l L ∧ (∀ x, x ∈ L.map (·.2) ↔ x = first ∨ x ∈ ends (ss.take i) ∨ x ∈ endsS (sp.take (i' + 1))) ∧ L.length ≤ 1 + (ends (ss.take i)).length + (endsS (sp.take (i' + 1))).length) (b := true) (ptd_notN (pd_var 4 rfl (hover _ _ h2))) (fun _ R4 s4 => ?_) (fun z => by cases z) (fun m σ' R' _ h => sw_nil h)
          refine sw_dput (v := h) (i := 1) (j := 4) hu1 rfl (d4.mono s4) h0 hP2 (lt_line (by show (addK L q1 lo).length < 1000; omega)) rfl (Dv_mono s4 (hover _ _ h2)) fun R5 q2 hover2 d5 hfr2 => sw_nil ⟨addK (addK L q1 lo) q2 h, some v1, some v2, rfl, d5, fun x => ?_, ?_⟩
          · rw [addK_keys, hk4, endsS_take hp, List.mem_append]
            constructor
            · rintro ((z | z | z | z) | z)
              · exact .inl z
              · exact .inr (.inl z)
              · exact .inr (.inr (.inl z))
              · exact .inr (.inr (.inr (by simp [endsP, z])))
              · exact .inr (.inr (.inr (by simp [endsP, z])))
            · rintro (z | z | z | z)
              · exact .inl (.inl z)
              · exact .inl (.inr (.inl z))
              · exact .inl (.inr (.inr (.inl z)))
              · have z' : x = lo ∨ x = h := by simpa [endsP] using z
                rcases z' with z' | z'
                · exact .inl (.inr (.inr (.inr z')))
                · exact .inr z'
          · have := addK_len (addK L q1 lo) q2 h
            rw [endsS_take hp, List.length_append, he2]
            simp only [Option.toList_some, List.length_cons, List.length_nil]
            omega
      · obtain ⟨L, u3, u4, rfl, d1', d2', d3'⟩ := pv2
        rw [List.take_length] at d2' d3'
        refine sw_nil ⟨L, some u, u3, u4, rfl, d1', fun x => ?_, ?_⟩
        · rw [d2', ends_take hsp, List.mem_append]
        · rw [ends_take hsp, List.length_append]
          omega
    · obtain ⟨L, u2, u3, u4, rfl, d1, d2, d3⟩ := pv
      rw [List.take_length] at d2
      refine sw_retD (d := .list ((settle (L.map (·.2))).map tupI)) (pd_sortDict (i := 1) rfl hr.units B rfl d1 fun p hp => ?_) ?_
      · rcases (d2 p.2).mp (List.mem_map.mpr ⟨p, hp, rfl⟩) with z | z
        · rw [z]; exact List.cons_ne_nil _ _
        · exact (ok.ver _ z).1
      · have : settle (L.map (·.2)) = cuts ss := settle_congr fun x => by rw [d2, List.mem_cons]
        rw [this]
end
end NF

set_option Elab.async false
set_option linter.all false
set_option maxRecDepth 100000
set_option maxHeartbeats 2000000
namespace NF
open PySem PySem.Spec PyProof.Rows L2
def enumL : Nat → List Span → List (Nat × Span)
  | _, [] => []
  | n, s :: ss => (n, s) :: enumL (n + 1) ss
theorem enumD_enc : ∀ (n : Nat) (ss : List Span), enumD n (ss.map encS) = (enumL n ss).map fun z => .tuple [.int (z.1 : Nat), encS z.2]
  | _, [] => rfl
  | n, s :: ss => by
    show _ :: enumD (n + 1) (ss.map encS) = _ :: (enumL (n + 1) ss).map _
    rw [enumD_enc (n + 1) ss]
theorem enumL_len : ∀ (n : Nat) (ss : List Span), (enumL n ss).length = ss.length
  | _, [] => rfl
  | n, s :: ss => by rw [enumL, List.length_cons, List.length_cons, enumL_len]
theorem enumL_mem : ∀ {n : Nat} {ss : List Span} {z : Nat × Span}, z ∈ enumL n ss → z.2 ∈ ss
  | _, [], _, h => nomatch h
  | n, s :: ss, z, h => by
    rcases List.mem_cons.mp h with rfl | h
    · exact List.mem_cons_self
    · exact List.mem_cons_of_mem _ (enumL_mem h)
theorem enumL_nums (v : Ver) : ∀ (n : Nat) (ss : List Span), (enumL n ss).filterMap (fun z => if inn z.2 v = true then some (PyData.int ((z.1 : Nat) : Int)) else none) = (numsFrom n ss v).map .int
  | _, [] => rfl
  | n, s :: ss => by
    rw [enumL, numsFrom]
    cases h : inn s v with
    | true =>
      rw [List.filterMap_cons_some (by simp only [h, if_true] <;> rfl), enumL_nums v (n + 1) ss]
      simp
    | false =>
      rw [List.filterMap_cons_none (by simp only [h] <;> rfl), enumL_nums v (n + 1) ss]
      simp
theorem nums_len : ∀ (n : Nat) (ss : List Span) (v : Ver), (numsFrom n ss v).length ≤ ss.length
  | _, [], _ => Nat.le_refl _
  | n, s :: ss, v => by
    rw [numsFrom]
    have := nums_len (n + 1) ss v
    split
    · rw [List.length_cons, List.length_cons]; omega
    · rw [List.length_cons]; omega
theorem strL_len : ∀ cs : List Ver, (strL cs).length = cs.length
  | [] => rfl
  | [c] => rfl
  | c :: d :: r => by rw [strL, List.length_cons, strL_len (d :: r), List.length_cons (as := d :: r)]
theorem strL_ok : ∀ {cs : List Ver}, (∀ c ∈ cs, VOk c) → ∀ p ∈ strL cs, POk p
  | [], _, _, h => nomatch h
  | [c], hc, p, h => by
    rw [List.mem_singleton.mp h]
    intro v hv
    have : v = c := by simpa [endsP] using hv
    rw [this]; exact hc c List.mem_cons_self
  | c :: d :: r, hc, p, h => by
    rcases List.mem_cons.mp h with rfl | h
    · intro v hv
      have hv' : v = c ∨ v = d := by simpa [endsP] using hv
      rcases hv' with z | z
      · rw [z]; exact hc c List.mem_cons_self
      · rw [z]; exact hc d (by simp)
    · exact strL_ok (fun x hx => hc x (List.mem_cons_of_mem _ hx)) p h
theorem zip_strL (cs : List Ver) : zipD (cs.map tupI) (cutA (cs.map tupI) (some 1) none ++ [.none]) = (strL cs).map encP := by
  have e : cutA (cs.map tupI) (some 1) none ++ [PyData.none] = (cs.tail.map some ++ [none]).map encO := by
    rw [cut1, List.map_append, List.map_map, ← List.map_tail]
    rfl
  rw [e, ← strL_zip]
  unfold zipD
  rw [List.zipWith_map, List.zip_eq_zipWith, List.map_zipWith]
  rfl
theorem settle_len : ∀ l : List Ver, (settle l).length ≤ l.length
  | [] => Nat.le_refl _
  | v :: l => by
    have h1 : ∀ (m : List Ver), (ins v m).length ≤ m.length + 1 := by
      intro m
      induction m with
      | nil => exact Nat.le_refl _
      | cons x m ih =>
        unfold ins
        split
        · simp
        · split
          · rw [List.length_cons, List.length_cons]; omega
          · rw [List.length_cons]; omega
    have := settle_len l
    have := h1 (settle l)
    rw [settle, List.length_cons]
    omega
theorem cuts_len (ss : List Span) : (cuts ss).length ≤ 1 + (ends ss).length := by
  have := settle_len (first :: ends ss)
  rw [List.length_cons] at this
  unfold cuts
  omega
theorem first_ok : VOk first := ⟨List.cons_ne_nil _ _, by decide⟩
theorem cuts_ok {ss : List Span} (ok : SsOk ss) : ∀ c ∈ cuts ss, VOk c := fun c hc => by
  rcases mem_cuts.mp hc with rfl | h
  · exact first_ok
  · exact ok.ver c h
theorem grainsR_append (ss : List Span) : ∀ (ps qs : List Pr) (acc : List Gr), grainsR ss (ps ++ qs) acc = grainsR ss qs (grainsR ss ps acc)
  | [], _, _ => rfl
  | p :: ps, qs, acc => by rw [List.cons_append, grainsR, grainsR, grainsR_append ss ps qs]
theorem grainsR_take (ss : List Span) {ps : List Pr} {i : Nat} {p : Pr} (h : ps[i]? = some p) : grainsR ss (ps.take (i + 1)) [] = stepG (grainsR ss (ps.take i) []) p.1 p.2 (nums ss p.1) := by
  rw [take_next h, grainsR_append]
  rfl
theorem joinR_take {ps : List Pr} {i : Nat} {p : Pr} (h : ps[i]? = some p) : joinR (ps.take (i + 1)) [] = stepJ (joinR (ps.take i) []) p.1 p.2 := by
  rw [take_next h, joinR_append]
  rfl
theorem atI_last {α : Type} (l : List α) (x : α) : atI (l ++ [x]) (-1) = some x := by
  have h : ixN (l ++ [x]).length (-1) = some l.length := by
    unfold ixN
    rw [List.length_append, List.length_singleton]
    have : ¬ (0 : Int) ≤ -1 := by decide
    simp [this]
    omega
  unfold atI
  rw [h]
  show (l ++ [x])[l.length]? = some x
  simp
theorem ixN_last {n : Nat} (h : 0 < n) : ixN n (-1) = some (n - 1) := by
  unfold ixN
  have : ¬ (0 : Int) ≤ -1 := by decide
  simp [this]
  omega
theorem set_last {α : Type} (l : List α) (x y : α) : (l ++ [x]).set l.length y = l ++ [y] := by
  rw [List.set_append_right _ _ (Nat.le_refl _), Nat.sub_self]
  rfl
theorem stepG_same {l lo : Ver} {h hi : Option Ver} {m k : Row} {t : List Gr} (e : m = k) : stepG ((l, h, m) :: t) lo hi k = (l, hi, k) :: t := if_pos e
theorem stepG_diff {l lo : Ver} {h hi : Option Ver} {m k : Row} {t : List Gr} (e : ¬ m = k) : stepG ((l, h, m) :: t) lo hi k = (lo, hi, k) :: (l, h, m) :: t := if_neg e
theorem stepJ_same {l lo : Ver} {h hi : Option Ver} {t : Span} (e : h = some lo) : stepJ ((l, h) :: t) lo hi = (l, hi) :: t := if_pos e
theorem stepJ_diff {l lo : Ver} {h hi : Option Ver} {t : Span} (e : ¬ h = some lo) : stepJ ((l, h) :: t) lo hi = (lo, hi) :: (l, h) :: t := if_neg e
theorem stepG_len (acc : List Gr) (lo : Ver) (hi : Option Ver) (k : Row) : (stepG acc lo hi k).length ≤ acc.length + 1 := by
  cases acc with
  | nil => exact Nat.le_refl _
  | cons g t =>
    obtain ⟨l, h, m⟩ := g
    unfold stepG
    by_cases e : m = k
    · simp [e]
    · simp [e]
theorem stepJ_len (acc : Span) (lo : Ver) (hi : Option Ver) : (stepJ acc lo hi).length ≤ acc.length + 1 := by
  cases acc with
  | nil => exact Nat.le_refl _
  | cons g t =>
    obtain ⟨l, h⟩ := g
    unfold stepJ
    by_cases e : h = some lo
    · simp [e]
    · simp [e]
/-- grains of good versions and small rows -/
def GOk (g : Gr) : Prop := VOk g.1 ∧ (∀ v, g.2.1 = some v → VOk v) ∧ g.2.2.length ≤ 1000
theorem fin_encG {g : Gr} (h : GOk g) : fin 2 (encG g) = true := fin_t.mpr ⟨Nat.le_trans (Nat.le_refl 3) (by decide), fun d hd => by
  rcases List.mem_cons.mp hd with rfl | hd
  · exact fin_tupI h.1.2
  · rcases List.mem_cons.mp hd with rfl | hd
    · exact fin_encO fun v e => (h.2.1 v e).2
    · rw [List.mem_singleton.mp hd]
      exact fin_tupI h.2.2⟩
theorem POk.hi' {p : Pr} (h : POk p) : ∀ v, p.2 = some v → VOk v := fun v e => h.hi e
theorem stepG_ok {acc : List Gr} {lo : Ver} {hi : Option Ver} {k : Row} (h : ∀ g ∈ acc, GOk g) (g0 : GOk (lo, hi, k)) : ∀ g ∈ stepG acc lo hi k, GOk g := by
  cases acc with
  | nil => intro g hg; rw [List.mem_singleton.mp hg]; exact g0
  | cons q t =>
    obtain ⟨l, x, m⟩ := q
    have hq := h _ List.mem_cons_self
    intro g hg
    unfold stepG at hg
    by_cases e : m = k
    · simp only [e, if_true] at hg
      rcases List.mem_cons.mp hg with rfl | hg
      · exact ⟨hq.1, g0.2.1, g0.2.2⟩
      · exact h g (List.mem_cons_of_mem _ hg)
    · simp only [if_neg e] at hg
      rcases List.mem_cons.mp hg with rfl | hg
      · exact g0
      · exact h g hg
section
variable {P : Program} {w : World} {K : PySem.W.Frag} {mg : Str → Option Value} {base : Heap}
def preRCuts : List PyData → PyData → Prop := fun ds d => ∃ t ss, ds = [t] ∧ fin 4 t = true ∧ tupM t = encSs ss ∧ SsOk ss ∧ d = .list ((cuts ss).map tupI)
def preStr : List PyData → PyData → Prop := fun ds d => ∃ cs : List Ver, ds = [.list (cs.map tupI)] ∧ cs.length ≤ 500 ∧ d = .list ((strL cs).map encP)
def preNums : List PyData → PyData → Prop := fun ds d => ∃ ss v, ds = [encSs ss, tupI v] ∧ SsOk ss ∧ d = tupI (nums ss v)
def preGr : List PyData → PyData → Prop := fun ds d => ∃ ss, ds = [encSs ss] ∧ SsOk ss ∧ d = .list ((grains ss).map encG)
def preRGr : List PyData → PyData → Prop := fun ds d => ∃ t ss, ds = [t] ∧ fin 4 t = true ∧ tupM t = encSs ss ∧ SsOk ss ∧ d = .list ((grains ss).map encG)
theorem df_range_cuts (F : At K mg "range_cuts" s_range_cuts ["spans"]) (F1 : Df P w K mg base 1 "cuts_in" ["spans"] (spD K preCuts)) (F2 : Df P w K mg base 5 "tupled" ["thing"] (spD K (preRec tupM 4))) : Df P w K mg base 6 "range_cuts" ["spans"] (spD K preRCuts) := by
  refine df_mk F c_range_cuts (fun ds d h => ?_) fun f cdv A outer s H E vs R ds d hr dv h => ?_
  · obtain ⟨p, _, rfl, _⟩ := h; rfl
  · obtain ⟨t, ss, rfl, ht, e, ok, rfl⟩ := h
    obtain ⟨v, rfl, a⟩ := DvAll.one' dv
    exact bd_ret (pd_call F1 (hr.mono (by decide)) (pds_one (pd_call F2 hr (pds_one (pd_var 0 rfl a)) ⟨t, rfl, ht, rfl⟩)) ⟨ss, by rw [e], ok, rfl⟩)
theorem df_stretches (F : At K mg "stretches" s_stretches ["cuts"]) (B : Blt mg) : Df P w K mg base 1 "stretches" ["cuts"] (spD K preStr) := by
  refine df_mk F c_stretches (fun ds d h => ?_) fun f cdv A outer s H E vs R ds d hr dv h => ?_
  · obtain ⟨p, rfl, _⟩ := h; rfl
  · obtain ⟨cs, rfl, hl, rfl⟩ := h
    obtain ⟨v, rfl, a⟩ := DvAll.one' dv
    refine bd_ret (PD.eq (pd_listZip rfl B (pd_var 0 rfl a) (pd_cat (pd_sliceL (pd_var 0 rfl a) (pod_some pd_int) pod_none) (pd_lst (pds_one pd_non)) ?_) ?_) (by rw [zip_strL]))
    · rw [cut1, List.length_tail, List.length_map, List.length_singleton]
      exact Nat.le_trans (show cs.length - 1 + 1 ≤ 1000 by omega) (by decide)
    · rw [List.length_map]; omega
theorem df_spans_holding (F : At K mg "spans_holding" s_spans_holding ["spans", "version"]) (B : Blt mg) (F1 : Df P w K mg base 2 "span_holds" ["span", "version"] (spD K preInn)) : Df P w K mg base 3 "spans_holding" ["spans", "version"] (spD K preNums) := by
  refine df_mk F c_spans_holding (fun ds d h => ?_) fun f cdv A outer s H E vs R ds d hr dv h => ?_
  · obtain ⟨p, _, rfl, _⟩ := h; rfl
  · obtain ⟨ss, x, rfl, ok, rfl⟩ := h
    obtain ⟨v, u, rfl, a, b⟩ := DvAll.two' dv
    refine bd_ret (pd_tuple B (PD.eq (pd_lcT (l := enumL 0 ss) (enc := fun z => .tuple [.int (z.1 : Nat), encS z.2]) (own := [("number", 2), ("span", 3)]) (g := gTup K 2 (gCons (gName 2) (gCons (gName 3) gNil))) (f := fun z => if inn z.2 x = true then some (.int (z.1 : Nat)) else none) rfl c_spans_holding.nd ?_ (blkOk_by (by show blkC n_spans_holding (defScope s_spans_holding) _ _ = true; decide +kernel)) ?_
        (fun _ _ _ _ _ => pg2 2 3 rfl c_spans_holding.nd) (fun z v R1 H1 kk hd s1 s2 dv q2 => ?_)) (congrArg PyData.list (enumL_nums x 0 ss))) .l)
    · rw [← enumD_enc]
      exact pid_enum B (pd_var 0 rfl a) .t
    · rw [enumL_len]; exact Nat.le_trans ok.num (by decide)
    · refine g_two s2 dv fun v1 v2 h1 h2 => q2 _ rfl (lcb_if (fun _ _ _ _ _ => ptd (pd_call F1 hr (pds_cons (pd_var 3 rfl h2) (pds_one (pd_var 1 rfl (Dv_mono s1 b)))) ⟨z.2, x, rfl, Nat.le_trans (ok.len (enumL_mem hd)) (by decide), rfl⟩)) fun _ _ _ _ _ _ => pd_var 2 rfl h1)
theorem df_grains_in (F : At K mg "grains_in" s_grains_in ["spans"]) (B : Blt mg) (F1 : Df P w K mg base 1 "cuts_in" ["spans"] (spD K preCuts)) (F2 : Df P w K mg base 1 "stretches" ["cuts"] (spD K preStr)) (F3 : Df P w K mg base 3 "spans_holding" ["spans", "version"] (spD K preNums)) :
    Df P w K mg base 4 "grains_in" ["spans"] (spD K preGr) := by
  refine df_sw F c_grains_in (fun ds d h => ?_) fun f cdv A outer s H E vs R ds d hr dv h => ?_
  · obtain ⟨p, rfl, _⟩ := h; rfl
  · obtain ⟨ss, rfl, ok, rfl⟩ := h
    obtain ⟨v, rfl, a⟩ := DvAll.one' dv
    have hr1 : Room 1 _ := hr.mono (by decide)
    have hcl : (cuts ss).length ≤ 63 := Nat.le_trans (cuts_len ss) (by have := ok.few; omega)
    refine sw_setF 1 c_grains_in.nd fl_nil fun l xs R1 s1 r1 dx h0 hR hP => ?_
    cases dx
    refine sw_forT (l := strL (cuts ss)) (enc := encP) (fun i σ R => ∃ (acc : List Gr) (xs : List V) (u2 u3 u4 : Option V), σ = [some v, some (V.ref l), u2, u3, u4] ∧ Dv K R v (encSs ss) ∧ R l = some (.lst xs) ∧ DvAll K R xs (acc.reverse.map encG) ∧ acc = grainsR ss ((strL (cuts ss)).take i) [] ∧ acc.length ≤ i ∧ i ≤ 63 ∧ ∀ g ∈ acc, GOk g)
      PassesOwn.never rfl (pid_seq (pd_call F2 hr1 (pds_one (pd_call F1 hr1 (pds_one (pd_var 0 rfl a)) ⟨ss, rfl, ok, rfl⟩)) ⟨cuts ss, rfl, by omega, rfl⟩) .l) (pg2 2 3 rfl c_grains_in.nd) (fun R2 s2 => ⟨[], [], none, none, none, rfl, Dv_mono (s1.trans s2) a, s2 _ _ r1, .nil, rfl, Nat.le_refl _, Nat.zero_le _, fun g hg => nomatch hg⟩)
      (fun i σ R R' h s => ?_) (fun i p u j σ' R' P1 H1 k hp hfree pv sP1 du sH kk => ?_) (fun j σ' R' pv sP => ?_)
    · obtain ⟨acc, xs, u2, u3, u4, e, d0, d1, d2, d3⟩ := h
      exact ⟨acc, xs, u2, u3, u4, e, Dv_mono s d0, s _ _ d1, DvAll_mono s d2, d3⟩
    · obtain ⟨acc, xs, u2, u3, u4, rfl, d0, d1, d2, d3, d4, d5, d6⟩ := pv
      have hP1 : P1 l = none := hfree l (by rw [r1]; exact fun z => nomatch z) hP
      have hi63 : i < 63 := by
        have := (List.getElem?_eq_some_iff.mp hp).1
        rw [strL_len] at this
        omega
      have pok := strL_ok (cuts_ok ok) p (List.mem_of_getElem? hp)
      obtain ⟨lo, hi⟩ := p
      have hnl : (nums ss lo).length ≤ 1000 := Nat.le_trans (nums_len 0 ss lo) (Nat.le_trans ok.num (by decide))
      have gok : GOk (lo, hi, nums ss lo) := ⟨pok.lo, pok.hi', hnl⟩
      refine g_two sH du fun v1 v2 h1 h2 => kk _ ?_
      refine sw_setD 4 c_grains_in.nd (pd_call F3 hr (pds_cons (pd_var 0 rfl d0) (pds_one (pd_var 2 rfl h1))) ⟨ss, lo, rfl, ok, rfl⟩) fun v4 R2 s2 du4 => ?_
      have d0' := Dv_mono s2 d0
      have d1' := s2 _ _ d1
      have d2' := DvAll_mono s2 d2
      have dfound : Dv K R2 (.ref l) (.list (acc.reverse.map encG)) := .lst d1' d2'
      have lxs : xs.length = acc.length := by rw [DvAll.len d2, List.length_map, List.length_reverse]
      have shf : SeqAt.shaped (.list (acc.reverse.map encG)) = true := fin_shaped (n := 3) (fin_l.mpr ⟨by rw [List.length_map, List.length_reverse]; omega, fun d hd => by
        obtain ⟨g, hg, rfl⟩ := List.mem_map.mp hd
        exact fin_encG (d6 g (List.mem_reverse.mp hg))⟩)
      have shn : SeqAt.shaped (tupI (nums ss lo)) = true := fin_shaped (fin_tupI hnl)
      have hacc := grainsR_take ss hp
      rw [← d3] at hacc
      have fin1 : ∀ (R3 : Hp) (v : V) (R' : Hp), DvAll K R3 [v] [encG (lo, hi, nums ss lo)] → True := fun _ _ _ _ => trivial
      cases hA : acc with
      | nil =>
        subst hA
        have ex : xs = [] := List.length_eq_zero_iff.mp lxs
        subst ex
        refine sw_ifD (M := fun m σ' R' => m = j ∧ ∃ (acc : List Gr) (xs : List V) (u2 u3 u4 : Option V), σ' = [some v, some (V.ref l), u2, u3, u4] ∧ Dv K R' v (encSs ss) ∧ R' l = some (.lst xs) ∧ DvAll K R' xs (acc.reverse.map encG) ∧ acc = grainsR ss ((strL (cuts ss)).take (i + 1)) [] ∧ acc.length ≤ i + 1 ∧ i + 1 ≤ 63 ∧ ∀ g ∈ acc, GOk g) (b := false)
          (PTD.eq (ptd_and (y := true) (ptd_ne hr.units (pd_var 1 rfl dfound) (pd_lst pds_nil) shf rfl) fun z => by cases z) rfl) (fun z => by cases z) (fun _ R3 s3 => ?_) (fun m σ' R' _ h => sw_nil (by obtain ⟨_, h⟩ := h; exact h))
        refine sw_app (i := 1) (W := fun m d => m = j ∧ d = encG (lo, hi, nums ss lo)) rfl (s3 _ _ d1') h0 hP1 (lt_line (by decide)) (ew_pd (pd_tup (pds_cons (pd_var 2 rfl (Dv_mono (s2.trans s3) h1)) (pds_cons (pd_var 3 rfl (Dv_mono (s2.trans s3) h2)) (pds_one (pd_var 4 rfl (Dv_mono s3 du4))))) (by show 3 ≤ 1000; decide)) ⟨rfl, rfl⟩) fun vn R4 m d s4 dvn ⟨em, ed⟩ r4 => ?_
        subst ed
        exact sw_nil ⟨em, [(lo, hi, nums ss lo)], _, some v1, some v2, some v4, rfl, (Dv_mono (s3.trans s4) d0').over r4 (noL_encSs ss), upd_same, .cons (dvn.over r4 (noL_encG _)) .nil, by rw [hacc]; rfl, by simp, by omega, fun g hg => by rw [List.mem_singleton.mp hg]; exact gok⟩
      | cons q t =>
        obtain ⟨l0, h0', m0⟩ := q
        subst hA
        have eR : ((l0, h0', m0) :: t : List Gr).reverse.map encG = t.reverse.map encG ++ [encG (l0, h0', m0)] := by rw [List.reverse_cons, List.map_append]; rfl
        have qok := d6 _ List.mem_cons_self
        have dlast : ∀ R3, Same R2 R3 → Dv K R3 (.ref l) (.list (t.reverse.map encG ++ [encG (l0, h0', m0)])) := fun R3 s3 => by rw [← eR]; exact Dv_mono s3 dfound
        have hne : PyData.eqv (.list (((l0, h0', m0) :: t : List Gr).reverse.map encG)) (.list []) = false := by
          rw [eqv_nilL, eR]
          cases t.reverse.map encG <;> rfl
        refine sw_ifD (M := fun m σ' R' => m = j ∧ ∃ (acc : List Gr) (xs : List V) (u2 u3 u4 : Option V), σ' = [some v, some (V.ref l), u2, u3, u4] ∧ Dv K R' v (encSs ss) ∧ R' l = some (.lst xs) ∧ DvAll K R' xs (acc.reverse.map encG) ∧ acc = grainsR ss ((strL (cuts ss)).take (i + 1)) [] ∧ acc.length ≤ i + 1 ∧ i + 1 ≤ 63 ∧ ∀ g ∈ acc, GOk g) (b := decide (m0 = nums ss lo))
          (PTD.eq (ptd_and (ptd_ne hr.units (pd_var 1 rfl dfound) (pd_lst pds_nil) shf rfl) fun _ => pwd_and1 (ptd_eq hr.units (pd_ix (pd_ix (pd_var 1 rfl (dlast R2 (Same.refl _))) (pd_neg pd_int) .l (atI_last _ _)) pd_int .t rfl) (pd_var 4 rfl du4) (fin_shaped (fin_tupI qok.2.2)) shn)) (by rw [hne, eqv_tupI]; rfl)) (fun hb R3 s3 => ?_) (fun hb R3 s3 => ?_) (fun m σ' R' _ h => sw_nil (by obtain ⟨_, h⟩ := h; exact h))
        · have em0 : m0 = nums ss lo := of_decide_eq_true hb
          have hx0 : 0 < xs.length := by rw [lxs]; exact Nat.succ_pos _
          refine sw_put (i := 1) (k := -1) (j := xs.length - 1) (W := fun m d => m = j ∧ d = encG (l0, hi, nums ss lo)) rfl (s3 _ _ d1') h0 hP1 (ixN_last hx0) (ew_pd (pd_tup (pds_cons (pd_ix (pd_ix (pd_var 1 rfl (dlast R3 s3)) (pd_neg pd_int) .l (atI_last _ _)) pd_int .t rfl) (pds_cons (pd_var 3 rfl (Dv_mono (s2.trans s3) h2)) (pds_one (pd_var 4 rfl (Dv_mono s3 du4))))) (by show 3 ≤ 1000; decide)) ⟨rfl, rfl⟩) (fun _ _ => pd_neg pd_int) fun vn R4 m d s4 dvn ⟨em, ed⟩ r4 => ?_
          subst ed
          have d2'' := (DvAll_mono (s3.trans s4) d2').over (o := .lst (xs.set (xs.length - 1) vn)) r4 (noLs_all fun d hd => by
            obtain ⟨g, _, rfl⟩ := List.mem_map.mp hd
            exact noL_encG g)
          rw [eR] at d2''
          have d3'' := DvAll.set (dvn.over (o := .lst (xs.set (xs.length - 1) vn)) r4 (noL_encG _)) (xs.length - 1) d2''
          have el : xs.length - 1 = (t.reverse.map encG).length := by rw [lxs, List.length_map, List.length_reverse]; rfl
          refine sw_nil ⟨em, (l0, hi, nums ss lo) :: t, _, some v1, some v2, some v4, rfl, (Dv_mono (s3.trans s4) d0').over r4 (noL_encSs ss), upd_same, ?_, by rw [hacc]; exact (stepG_same em0).symm, Nat.le_succ_of_le d4, by omega, fun g hg => ?_⟩
          · have e3 : (((l0, hi, nums ss lo) :: t : List Gr).reverse.map encG) = (t.reverse.map encG ++ [encG (l0, h0', m0)]).set (xs.length - 1) (encG (l0, hi, nums ss lo)) := by
              rw [el, set_last, List.reverse_cons, List.map_append]
              rfl
            rw [e3]
            exact d3''
          · rcases List.mem_cons.mp hg with rfl | hg
            · exact ⟨qok.1, pok.hi', hnl⟩
            · exact d6 g (List.mem_cons_of_mem _ hg)
        · have em0 : ¬ m0 = nums ss lo := of_decide_eq_false hb
          refine sw_app (i := 1) (W := fun m d => m = j ∧ d = encG (lo, hi, nums ss lo)) rfl (s3 _ _ d1') h0 hP1 (lt_line (by rw [lxs]; omega)) (ew_pd (pd_tup (pds_cons (pd_var 2 rfl (Dv_mono (s2.trans s3) h1)) (pds_cons (pd_var 3 rfl (Dv_mono (s2.trans s3) h2)) (pds_one (pd_var 4 rfl (Dv_mono s3 du4))))) (by show 3 ≤ 1000; decide)) ⟨rfl, rfl⟩) fun vn R4 m d s4 dvn ⟨em, ed⟩ r4 => ?_
          subst ed
          have d2'' := (DvAll_mono (s3.trans s4) d2').over (o := .lst (xs ++ [vn])) r4 (noLs_all fun d hd => by
            obtain ⟨g, _, rfl⟩ := List.mem_map.mp hd
            exact noL_encG g)
          refine sw_nil ⟨em, (lo, hi, nums ss lo) :: (l0, h0', m0) :: t, _, some v1, some v2, some v4, rfl, (Dv_mono (s3.trans s4) d0').over r4 (noL_encSs ss), upd_same, ?_, by rw [hacc]; exact (stepG_diff em0).symm, Nat.succ_le_succ d4, by omega, fun g hg => ?_⟩
          · rw [List.reverse_cons, List.map_append]
            exact d2''.app (.cons (dvn.over r4 (noL_encG _)) .nil)
          · rcases List.mem_cons.mp hg with rfl | hg
            · exact gok
            · exact d6 g hg
    · obtain ⟨acc, xs, u2, u3, u4, rfl, d0, d1, d2, d3, d4, d5, d6⟩ := pv
      rw [List.take_length] at d3
      subst d3
      exact sw_retD (pd_var 1 rfl (.lst d1 d2)) rfl
theorem df_range_grains (F : At K mg "range_grains" s_range_grains ["spans"]) (F1 : Df P w K mg base 4 "grains_in" ["spans"] (spD K preGr)) (F2 : Df P w K mg base 5 "tupled" ["thing"] (spD K (preRec tupM 4))) : Df P w K mg base 6 "range_grains" ["spans"] (spD K preRGr) := by
  refine df_mk F c_range_grains (fun ds d h => ?_) fun f cdv A outer s H E vs R ds d hr dv h => ?_
  · obtain ⟨p, _, rfl, _⟩ := h; rfl
  · obtain ⟨t, ss, rfl, ht, e, ok, rfl⟩ := h
    obtain ⟨v, rfl, a⟩ := DvAll.one' dv
    exact bd_ret (pd_call F1 (hr.mono (by decide)) (pds_one (pd_call F2 hr (pds_one (pd_var 0 rfl a)) ⟨t, rfl, ht, rfl⟩)) ⟨ss, by rw [e], ok, rfl⟩)
end
end NF

set_option Elab.async false
set_option linter.all false
set_option maxRecDepth 100000
set_option maxHeartbeats 2000000
namespace NF
open PySem PySem.Spec PyProof.Rows L2
theorem stepJ_ok {acc : Span} {lo : Ver} {hi : Option Ver} (h : ∀ g ∈ acc, POk g) (g0 : POk (lo, hi)) : ∀ g ∈ stepJ acc lo hi, POk g := by
  cases acc with
  | nil => intro g hg; rw [List.mem_singleton.mp hg]; exact g0
  | cons q t =>
    obtain ⟨l, x⟩ := q
    have hq := h _ List.mem_cons_self
    intro g hg
    unfold stepJ at hg
    by_cases e : x = some lo
    · simp only [e, if_true] at hg
      rcases List.mem_cons.mp hg with rfl | hg
      · intro v hv
        have hv' : v = l ∨ v ∈ hi.toList := by simpa [endsP] using hv
        rcases hv' with z | z
        · rw [z]; exact hq.lo
        · exact g0 v (List.mem_cons_of_mem _ z)
      · exact h g (List.mem_cons_of_mem _ hg)
    · simp only [if_neg e] at hg
      rcases List.mem_cons.mp hg with rfl | hg
      · exact g0
      · exact h g hg
theorem atI_zero {α : Type} (x : α) (l : List α) : atI (x :: l) 0 = some x := by
  have h : ixN (x :: l).length 0 = some 0 := by
    unfold ixN
    rw [List.length_cons]
    simp
  unfold atI
  rw [h]
  rfl
theorem grains_ok {ss : List Span} (ok : SsOk ss) : ∀ g ∈ grains ss, GOk g := by
  have key : ∀ (ps : List Pr) (acc : List Gr), (∀ p ∈ ps, POk p) → (∀ g ∈ acc, GOk g) → ∀ g ∈ grainsR ss ps acc, GOk g := by
    intro ps
    induction ps with
    | nil => intro acc _ h; exact h
    | cons p ps ih =>
      intro acc hp h
      have hp1 := hp p List.mem_cons_self
      exact ih _ (fun q hq => hp q (List.mem_cons_of_mem _ hq)) (stepG_ok h ⟨hp1.lo, hp1.hi', Nat.le_trans (nums_len 0 ss p.1) (Nat.le_trans ok.num (by decide))⟩)
  intro g hg
  exact key _ [] (strL_ok (cuts_ok ok)) (fun g hg => nomatch hg) g (List.mem_reverse.mp hg)
theorem grains_len {ss : List Span} (ok : SsOk ss) : (grains ss).length ≤ 63 := by
  have key : ∀ (ps : List Pr) (acc : List Gr), (grainsR ss ps acc).length ≤ acc.length + ps.length := by
    intro ps
    induction ps with
    | nil => intro acc; exact Nat.le_refl _
    | cons p ps ih =>
      intro acc
      have h1 := ih (stepG acc p.1 p.2 (nums ss p.1))
      have h2 := stepG_len acc p.1 p.2 (nums ss p.1)
      rw [grainsR, List.length_cons]
      omega
  have h1 := key (strL (cuts ss)) []
  have h2 := cuts_len ss
  have h3 := ok.few
  unfold grains
  rw [List.length_reverse]
  rw [strL_len] at h1
  have : ([] : List Gr).length = 0 := rfl
  omega
section
variable {P : Program} {w : World} {K : PySem.W.Frag} {mg : Str → Option Value} {base : Heap}
def preJoin : List PyData → PyData → Prop := fun ds d => ∃ ps : List Pr, ds = [.list (ps.map encP)] ∧ (∀ p ∈ ps, POk p) ∧ ps.length ≤ 500 ∧ d = encS (joined ps)
def preRows : List PyData → PyData → Prop := fun ds d => ∃ t r ss rows, ds = [t, r] ∧ fin 4 t = true ∧ tupM t = encSs ss ∧ SsOk ss ∧ fin 4 r = true ∧ tupM r = encRs rows ∧ d = encS (byFlags ss rows)
def preRangeOf : List PyData → PyData → Prop := fun ds d => ∃ t ps, ds = [t] ∧ fin 3 t = true ∧ tupM t = encS ps ∧ SsOk [ps] ∧ d = encS (rangeOf ps)
theorem flags_ends {ss : List Span} {rows : List Row} : ∀ p ∈ byFlags ss rows, p.1 ∈ cuts ss ∧ ∀ h, p.2 = some h → h ∈ cuts ss := fun p hp => by
  unfold byFlags at hp
  rw [spanOf_b] at hp
  have := (b_lows _).1 p hp
  rw [flagged_snd] at this
  exact this
theorem flags_pok {ss : List Span} (ok : SsOk ss) (rows : List Row) : ∀ p ∈ byFlags ss rows, POk p := fun p hp v hv => by
  obtain ⟨h1, h2⟩ := flags_ends p hp
  have hv' : v = p.1 ∨ v ∈ p.2.toList := by simpa [endsP] using hv
  rcases hv' with z | z
  · rw [z]; exact cuts_ok ok _ h1
  · exact cuts_ok ok _ (h2 v (by simpa using z))
theorem b_len : ∀ l : List (Bool × Ver), (b0 l).length ≤ l.length ∧ ∀ a, (b1 a l).length ≤ l.length + 1
  | [] => ⟨Nat.le_refl _, fun a => Nat.le_refl _⟩
  | (true, p) :: r => by
    obtain ⟨h0, h1⟩ := b_len r
    refine ⟨?_, fun a => ?_⟩
    · rw [b0, List.length_cons]; exact h1 p
    · rw [b1, List.length_cons]; have := h1 a; omega
  | (false, p) :: r => by
    obtain ⟨h0, h1⟩ := b_len r
    refine ⟨?_, fun a => ?_⟩
    · rw [b0, List.length_cons]; omega
    · rw [b1, List.length_cons, List.length_cons]; omega
theorem flags_len {ss : List Span} (rows : List Row) : (byFlags ss rows).length ≤ 1 + (ends ss).length := by
  unfold byFlags
  rw [spanOf_b]
  have h1 := (b_len (flagged (fun p => decide (nums ss p ∈ rows)) (cuts ss))).1
  have h2 := cuts_len ss
  unfold flagged at h1 ⊢
  rw [List.length_map] at h1
  omega
theorem fin_flags {ss : List Span} (ok : SsOk ss) (rows : List Row) : fin 3 (encS (byFlags ss rows)) = true := fin_encS (flags_pok ok rows) (by have := flags_len (ss := ss) rows; have := ok.few; omega)
theorem shaped_flags {ss : List Span} (ok : SsOk ss) (rows : List Row) : SeqAt.shaped (encS (byFlags ss rows)) = true := fin_shaped (fin_flags ok rows)
theorem df_pairs_joined (F : At K mg "pairs_joined" s_pairs_joined ["pairs"]) (B : Blt mg) : Df P w K mg base 1 "pairs_joined" ["pairs"] (spD K preJoin) := by
  refine df_sw F c_pairs_joined (fun ds d h => ?_) fun f cdv A outer s H E vs R ds d hr dv h => ?_
  · obtain ⟨p, rfl, _⟩ := h; rfl
  · obtain ⟨ps, rfl, ok, hpl, rfl⟩ := h
    obtain ⟨v, rfl, a⟩ := DvAll.one' dv
    refine sw_setF 1 c_pairs_joined.nd fl_nil fun l xs R1 s1 r1 dx h0 hR hP => ?_
    cases dx
    refine sw_forT (l := ps) (enc := encP) (fun i σ R => ∃ (acc : Span) (xs : List V) (u2 u3 : Option V), σ = [some v, some (V.ref l), u2, u3] ∧ R l = some (.lst xs) ∧ DvAll K R xs (acc.reverse.map encP) ∧ acc = joinR (ps.take i) [] ∧ acc.length ≤ i ∧ i ≤ 500 ∧ ∀ g ∈ acc, POk g)
      PassesOwn.never rfl (pid_seq (pd_var 0 rfl a) .l) (pg2 2 3 rfl c_pairs_joined.nd) (fun R2 s2 => ⟨[], [], none, none, rfl, s2 _ _ r1, .nil, rfl, Nat.le_refl _, Nat.zero_le _, fun g hg => nomatch hg⟩)
      (fun i σ R R' h s => ?_) (fun i p u j σ' R' P1 H1 k hp hfree pv sP1 du sH kk => ?_) (fun j σ' R' pv sP => ?_)
    · obtain ⟨acc, xs, u2, u3, e, d1, d2, d3⟩ := h
      exact ⟨acc, xs, u2, u3, e, s _ _ d1, DvAll_mono s d2, d3⟩
    · obtain ⟨acc, xs, u2, u3, rfl, d1', d2', d3, d4, d5, d6⟩ := pv
      have hP1 : P1 l = none := hfree l (by rw [r1]; exact fun z => nomatch z) hP
      have hi5 : i < 500 := by
        have := (List.getElem?_eq_some_iff.mp hp).1
        omega
      have pok := ok p (List.mem_of_getElem? hp)
      obtain ⟨lo, hi⟩ := p
      refine g_two sH du fun v1 v2 h1 h2 => kk _ ?_
      have dfound : Dv K R' (.ref l) (.list (acc.reverse.map encP)) := .lst d1' d2'
      have lxs : xs.length = acc.length := by rw [DvAll.len d2', List.length_map, List.length_reverse]
      have shf : SeqAt.shaped (.list (acc.reverse.map encP)) = true := fin_shaped (n := 3) (fin_l.mpr ⟨by rw [List.length_map, List.length_reverse]; omega, fun d hd => by
        obtain ⟨g, hg, rfl⟩ := List.mem_map.mp hd
        exact fin_encP (d6 g (List.mem_reverse.mp hg))⟩)
      have hacc := joinR_take hp
      rw [← d3] at hacc
      cases hA : acc with
      | nil =>
        subst hA
        have ex : xs = [] := List.length_eq_zero_iff.mp lxs
        subst ex
        refine sw_ifD (M := fun m σ' R' => m = j ∧ ∃ (acc : Span) (xs : List V) (u2 u3 : Option V), σ' = [some v, some (V.ref l), u2, u3] ∧ R' l = some (.lst xs) ∧ DvAll K R' xs (acc.reverse.map encP) ∧ acc = joinR (ps.take (i + 1)) [] ∧ acc.length ≤ i + 1 ∧ i + 1 ≤ 500 ∧ ∀ g ∈ acc, POk g) (b := false)
          (PTD.eq (ptd_and (y := true) (ptd_ne hr.units (pd_var 1 rfl dfound) (pd_lst pds_nil) shf rfl) fun z => by cases z) rfl) (fun z => by cases z) (fun _ R3 s3 => ?_) (fun m σ' R' _ h => sw_nil (by obtain ⟨_, h⟩ := h; exact h))
        refine sw_app (i := 1) (W := fun m d => m = j ∧ d = encP (lo, hi)) rfl (s3 _ _ d1') h0 hP1 (lt_line (by decide)) (ew_pd (pd_tup (pds_cons (pd_var 2 rfl (Dv_mono s3 h1)) (pds_one (pd_var 3 rfl (Dv_mono s3 h2)))) (by show 2 ≤ 1000; decide)) ⟨rfl, rfl⟩) fun vn R4 m d s4 dvn ⟨em, ed⟩ r4 => ?_
        subst ed
        exact sw_nil ⟨em, [(lo, hi)], _, some v1, some v2, rfl, upd_same, .cons (dvn.over r4 (noL_encP _)) .nil, by rw [hacc]; rfl, by simp, by omega, fun g hg => by rw [List.mem_singleton.mp hg]; exact pok⟩
      | cons q t =>
        obtain ⟨l0, h0'⟩ := q
        subst hA
        have eR : ((l0, h0') :: t : Span).reverse.map encP = t.reverse.map encP ++ [encP (l0, h0')] := by rw [List.reverse_cons, List.map_append]; rfl
        have qok := d6 _ List.mem_cons_self
        have dlast : ∀ R3, Same R' R3 → Dv K R3 (.ref l) (.list (t.reverse.map encP ++ [encP (l0, h0')])) := fun R3 s3 => by rw [← eR]; exact Dv_mono s3 dfound
        have hne : PyData.eqv (.list (((l0, h0') :: t : Span).reverse.map encP)) (.list []) = false := by
          rw [eqv_nilL, eR]
          cases t.reverse.map encP <;> rfl
        refine sw_ifD (M := fun m σ' R' => m = j ∧ ∃ (acc : Span) (xs : List V) (u2 u3 : Option V), σ' = [some v, some (V.ref l), u2, u3] ∧ R' l = some (.lst xs) ∧ DvAll K R' xs (acc.reverse.map encP) ∧ acc = joinR (ps.take (i + 1)) [] ∧ acc.length ≤ i + 1 ∧ i + 1 ≤ 500 ∧ ∀ g ∈ acc, POk g) (b := decide (h0' = some lo))
          (PTD.eq (ptd_and (ptd_ne hr.units (pd_var 1 rfl dfound) (pd_lst pds_nil) shf rfl) fun _ => pwd_and1 (ptd_eq hr.units (pd_ix (pd_ix (pd_var 1 rfl (dlast R' (Same.refl _))) (pd_neg pd_int) .l (atI_last _ _)) pd_int .t rfl) (pd_var 2 rfl h1) (fin_shaped (fin_encO fun v e => (qok.hi e).2)) (fin_shaped (fin_tupI pok.lo.2)))) (by rw [hne, eqv_encO]; rfl)) (fun hb R3 s3 => ?_) (fun hb R3 s3 => ?_) (fun m σ' R' _ h => sw_nil (by obtain ⟨_, h⟩ := h; exact h))
        · have em0 : h0' = some lo := of_decide_eq_true hb
          have hx0 : 0 < xs.length := by rw [lxs]; exact Nat.succ_pos _
          refine sw_put (i := 1) (k := -1) (j := xs.length - 1) (W := fun m d => m = j ∧ d = encP (l0, hi)) rfl (s3 _ _ d1') h0 hP1 (ixN_last hx0) (ew_pd (pd_tup (pds_cons (pd_ix (pd_ix (pd_var 1 rfl (dlast R3 s3)) (pd_neg pd_int) .l (atI_last _ _)) pd_int .t rfl) (pds_one (pd_var 3 rfl (Dv_mono s3 h2)))) (by show 2 ≤ 1000; decide)) ⟨rfl, rfl⟩) (fun _ _ => pd_neg pd_int) fun vn R4 m d s4 dvn ⟨em, ed⟩ r4 => ?_
          subst ed
          have d2'' := (DvAll_mono (s3.trans s4) d2').over (o := .lst (xs.set (xs.length - 1) vn)) r4 (noL_encPs _)
          rw [eR] at d2''
          have d3'' := DvAll.set (dvn.over (o := .lst (xs.set (xs.length - 1) vn)) r4 (noL_encP _)) (xs.length - 1) d2''
          have el : xs.length - 1 = (t.reverse.map encP).length := by rw [lxs, List.length_map, List.length_reverse]; rfl
          refine sw_nil ⟨em, (l0, hi) :: t, _, some v1, some v2, rfl, upd_same, ?_, by rw [hacc]; exact (stepJ_same em0).symm, Nat.le_succ_of_le d4, by omega, by have := stepJ_ok d6 pok; rw [stepJ_same em0] at this; exact this⟩
          have e3 : (((l0, hi) :: t : Span).reverse.map encP) = (t.reverse.map encP ++ [encP (l0, h0')]).set (xs.length - 1) (encP (l0, hi)) := by
            rw [el, set_last, List.reverse_cons, List.map_append]
            rfl
          rw [e3]
          exact d3''
        · have em0 : ¬ h0' = some lo := of_decide_eq_false hb
          refine sw_app (i := 1) (W := fun m d => m = j ∧ d = encP (lo, hi)) rfl (s3 _ _ d1') h0 hP1 (lt_line (by rw [lxs]; omega)) (ew_pd (pd_tup (pds_cons (pd_var 2 rfl (Dv_mono s3 h1)) (pds_one (pd_var 3 rfl (Dv_mono s3 h2)))) (by show 2 ≤ 1000; decide)) ⟨rfl, rfl⟩) fun vn R4 m d s4 dvn ⟨em, ed⟩ r4 => ?_
          subst ed
          have d2'' := (DvAll_mono (s3.trans s4) d2').over (o := .lst (xs ++ [vn])) r4 (noL_encPs _)
          refine sw_nil ⟨em, (lo, hi) :: (l0, h0') :: t, _, some v1, some v2, rfl, upd_same, ?_, by rw [hacc]; exact (stepJ_diff em0).symm, Nat.succ_le_succ d4, by omega, by have := stepJ_ok d6 pok; rw [stepJ_diff em0] at this; exact this⟩
          rw [List.reverse_cons, List.map_append]
          exact d2''.app (.cons (dvn.over r4 (noL_encP _)) .nil)
    · obtain ⟨acc, xs, u2, u3, rfl, d1, d2, d3, d4, d5, d6⟩ := pv
      rw [List.take_length] at d3
      subst d3
      exact sw_retD (pd_tuple B (pd_var 1 rfl (.lst d1 d2)) .l) rfl
theorem df_by_rows (F : At K mg "by_rows" s_by_rows ["spans", "rows"]) (B : Blt mg) (F1 : Df P w K mg base 1 "pairs_joined" ["pairs"] (spD K preJoin)) (F2 : Df P w K mg base 5 "tupled" ["thing"] (spD K (preRec tupM 4))) (F3 : Df P w K mg base 6 "range_grains" ["spans"] (spD K preRGr)) :
    Df P w K mg base 7 "by_rows" ["spans", "rows"] (spD K preRows) := by
  refine df_mk F c_by_rows (fun ds d h => ?_) fun f cdv A outer s H E vs R ds d hr dv h => ?_
  · obtain ⟨_, _, _, _, rfl, _⟩ := h; rfl
  · obtain ⟨t, r, ss, rows, rfl, ht, e, ok, hr4, er, rfl⟩ := h
    obtain ⟨v, u, rfl, a, b⟩ := DvAll.two' dv
    have shw : SeqAt.shaped (.tuple (rows.map tupI)) = true := by
      have := fin_tupM 4 r hr4
      rw [er] at this
      exact fin_shaped this
    refine bd_set 2 c_by_rows.nd (pd_call F2 (hr.mono (by decide)) (pds_one (pd_var 1 rfl b)) ⟨r, rfl, hr4, rfl⟩) fun v2 R1 s1 dv2 => ?_
    rw [er] at dv2
    have ehu : (A.deeper (envOfC "by_rows" (defScope s_by_rows) s.heap.objs.size f cdv)).units + 65 < cLine := by have := hr.un; omega
    refine bd_ret (pd_call F1 (hr.mono (by decide)) (pds_one (PD.eq (pd_lcT (l := grains ss) (enc := encG) (own := [("low", 3), ("high", 4), ("numbers", 5)]) (g := gTup K 3 (gCons (gName 3) (gCons (gName 4) (gCons (gName 5) gNil)))) (f := fun g => if decide (g.2.2 ∈ rows) = true then some (encP (g.1, g.2.1)) else none) rfl c_by_rows.nd (pid_seq (pd_call F3 hr (pds_one (pd_var 0 rfl (Dv_mono s1 a))) ⟨t, ss, rfl, ht, e, ok, rfl⟩) .l) (blkOk_by (by show blkC n_by_rows (defScope s_by_rows) _ _ = true; decide +kernel)) (Nat.le_trans (grains_len ok) (by decide))
        (fun _ _ _ _ _ => pg3 3 4 5 rfl c_by_rows.nd) (fun g v R2 H2 kk hd s2 s3 dv q2 => ?_)) (d1 := .list ((((grains ss).filter fun g => decide (g.2.2 ∈ rows)).map fun g => (g.1, g.2.1)).map encP)) ?_)) ⟨_, rfl, ?_, ?_, ?_⟩)
    · exact g_three s3 dv fun v3 v4 v5 h3 h4 h5 => q2 _ rfl (lcb_if (fun _ _ _ _ _ => PTD.eq (ptd_inT ehu (pd_var 5 rfl h5) (pd_var 2 rfl (Dv_mono s2 dv2)) (fin_shaped (fin_tupI (grains_ok ok g hd).2.2)) shw) (any_rows rows g.2.2)) fun _ _ _ _ _ _ => pd_tup (pds_cons (pd_var 3 rfl h3) (pds_one (pd_var 4 rfl h4))) (by show 2 ≤ 1000; decide))
    · congr 1
      generalize grains ss = gs
      induction gs with
      | nil => rfl
      | cons g gs ih =>
        by_cases hg : g.2.2 ∈ rows
        · rw [List.filterMap_cons_some (b := encP (g.1, g.2.1)) (by simp [hg]), List.filter_cons_of_pos (by simp [hg]), List.map_cons, List.map_cons, ih]
        · rw [List.filterMap_cons_none (by simp [hg]), List.filter_cons_of_neg (by simp [hg]), ih]
    · intro p hp
      obtain ⟨g, hg, rfl⟩ := List.mem_map.mp hp
      have gok := grains_ok ok g (List.mem_filter.mp hg).1
      intro x hx
      have hx' : x = g.1 ∨ x ∈ g.2.1.toList := by simpa [endsP] using hx
      rcases hx' with z | z
      · rw [z]; exact gok.1
      · exact gok.2.1 x (by simpa using z)
    · rw [List.length_map]
      have h1 := List.length_filter_le (fun g : Gr => decide (g.2.2 ∈ rows)) (grains ss)
      have h2 := grains_len ok
      omega
    · have := byRows_eq ss rows
      unfold byRows at this
      rw [this]
theorem df_range_of (F : At K mg "range_of" s_range_of ["pairs"]) (B : Blt mg) (F1 : Df P w K mg base 5 "tupled" ["thing"] (spD K (preRec tupM 4))) (F2 : Df P w K mg base 7 "by_rows" ["spans", "rows"] (spD K preRows)) : Df P w K mg base 8 "range_of" ["pairs"] (spD K preRangeOf) := by
  refine df_mk F c_range_of (fun ds d h => ?_) fun f cdv A outer s H E vs R ds d hr dv h => ?_
  · obtain ⟨_, _, rfl, _⟩ := h; rfl
  · obtain ⟨t, ps, rfl, ht, e, ok, rfl⟩ := h
    obtain ⟨v, rfl, a⟩ := DvAll.one' dv
    have okg : SsOk [ps.filter goodP] := by
      have hsub : ∀ v ∈ ends [ps.filter goodP], v ∈ ends [ps] := fun v hv => by
        rw [ends_one] at hv ⊢
        obtain ⟨p, hp, h⟩ := List.mem_flatMap.mp hv
        exact List.mem_flatMap.mpr ⟨p, (List.mem_filter.mp hp).1, h⟩
      refine ⟨fun v hv => ok.ver v (hsub v hv), ?_, by show 1 ≤ 62; decide⟩
      have hl : ∀ q : Span, (endsS (q.filter goodP)).length ≤ (endsS q).length := by
        intro q
        induction q with
        | nil => exact Nat.le_refl _
        | cons p q ih =>
          unfold endsS at ih ⊢
          by_cases hg : goodP p = true
          · rw [List.filter_cons_of_pos hg, List.flatMap_cons, List.flatMap_cons, List.length_append, List.length_append]; omega
          · rw [List.filter_cons_of_neg hg, List.flatMap_cons, List.length_append]; omega
      have h1 := hl ps
      have h2 := ok.few
      rw [ends_one] at h2 ⊢
      omega
    have hpl : ps.length ≤ sizeLine := Nat.le_trans (ok.len List.mem_cons_self) (by decide)
    have hnl : noL (.tuple [encS (ps.filter goodP)]) = true := noLs_cons (noL_encS _) rfl
    refine bd_set 1 c_range_of.nd (d1 := encS (ps.filter goodP)) (pd_tuple B (PD.eq (pd_lcT (l := ps) (enc := encP) (own := [("pair", 2)]) (f := fun p => if goodP p = true then some (encP p) else none) rfl c_range_of.nd (pid_seq (pd_call F1 (hr.mono (by decide)) (pds_one (pd_var 0 rfl a)) ⟨t, rfl, fin_mono ht (by decide), e.symm⟩) .t) (blkOk_by (by show blkC n_range_of (defScope s_range_of) _ _ = true; decide +kernel)) hpl (fun _ _ _ _ _ => pg_name (i := 2) c_range_of.nd rfl (Or.inl rfl))
      (fun p v R1 H1 kk hd s1 s2 dv q2 => q2 _ rfl (lcb_if (fun _ _ _ _ _ => ?_) fun _ _ _ _ _ _ => pd_var 2 rfl dv))) ?_) .l) fun v1 R1 s1 dv1 => ?_
    · obtain ⟨lo, hi⟩ := p
      cases hi with
      | none => exact PTD.eq (ptd_or (y := true) (ptd_isN (pd_ix (pd_var 2 rfl dv) pd_int .t rfl)) fun z => by cases z) rfl
      | some h => exact PTD.eq (ptd_or (ptd_isN (pd_ix (pd_var 2 rfl dv) pd_int .t rfl)) fun _ => pwd_or1 (ptd_ltT hr.units0 (pd_ix (pd_var 2 rfl dv) pd_int .t rfl) (pd_ix (pd_var 2 rfl dv) pd_int .t rfl))) (by rw [lexLt_eq]; rfl)
    · show PyData.list _ = PyData.list (encPs (ps.filter goodP))
      congr 1
      unfold encPs
      generalize ps = qs
      induction qs with
      | nil => rfl
      | cons p qs ih =>
        by_cases hg : goodP p = true
        · rw [List.filterMap_cons_some (b := encP p) (by simp [hg]), List.filter_cons_of_pos hg, List.map_cons, ih]
        · rw [List.filterMap_cons_none (by simp [hg]), List.filter_cons_of_neg hg, ih]
    · refine bd_ret (pd_call F2 hr (pds_cons (pd_tup (pds_one (pd_var 1 rfl dv1))) (pds_one (pd_tup (pds_one (pd_tup (pds_one pd_int)))))) ⟨_, _, [ps.filter goodP], [[0]], rfl, fin_encSs okg, tupM_noL _ hnl, okg, rfl, rfl, rfl⟩)
def pre_both_of : List PyData → PyData → Prop := fun ds d => ∃ x y s u, ds = [x, y] ∧ fin 3 x = true ∧ tupM x = encS s ∧ fin 3 y = true ∧ tupM y = encS u ∧ SsOk [s, u] ∧ d = encS (byFlags [s, u] [[0, 1]])
theorem df_both_of (F : At K mg "both_of" s_both_of ["one", "other"]) (F2 : Df P w K mg base 7 "by_rows" ["spans", "rows"] (spD K preRows)) : Df P w K mg base 8 "both_of" ["one", "other"] (spD K pre_both_of) := by
  refine df_mk F c_both_of (fun ds d h => ?_) fun f cdv A outer s H E vs R ds d hr dv h => ?_
  · obtain ⟨_, _, _, _, rfl, _⟩ := h; rfl
  · obtain ⟨x, y, s, u, rfl, hx, ex, hy, ey, ok, rfl⟩ := h
    obtain ⟨v1, v2, rfl, a, b⟩ := DvAll.two' dv
    exact bd_ret (pd_call F2 hr (pds_cons (pd_tup (pds_cons (pd_var 0 rfl a) (pds_one (pd_var 1 rfl b)))) (pds_one (pd_tup (pds_one (pd_tup (pds_cons pd_int (pds_one pd_int))))))) ⟨_, _, [s, u], [[0, 1]], rfl, fin_t.mpr ⟨by show 2 ≤ 1000; decide, fun d hd => by
      rcases List.mem_cons.mp hd with rfl | hd
      · exact hx
      · rw [List.mem_singleton.mp hd]; exact hy⟩, by show PyData.tuple [tupM x, tupM y] = _; rw [ex, ey]; rfl, ok, rfl, rfl, rfl⟩)
def pre_either_of : List PyData → PyData → Prop := fun ds d => ∃ x y s u, ds = [x, y] ∧ fin 3 x = true ∧ tupM x = encS s ∧ fin 3 y = true ∧ tupM y = encS u ∧ SsOk [s, u] ∧ d = encS (byFlags [s, u] [[0], [1], [0, 1]])
theorem df_either_of (F : At K mg "either_of" s_either_of ["one", "other"]) (F2 : Df P w K mg base 7 "by_rows" ["spans", "rows"] (spD K preRows)) : Df P w K mg base 8 "either_of" ["one", "other"] (spD K pre_either_of) := by
  refine df_mk F c_either_of (fun ds d h => ?_) fun f cdv A outer s H E vs R ds d hr dv h => ?_
  · obtain ⟨_, _, _, _, rfl, _⟩ := h; rfl
  · obtain ⟨x, y, s, u, rfl, hx, ex, hy, ey, ok, rfl⟩ := h
    obtain ⟨v1, v2, rfl, a, b⟩ := DvAll.two' dv
    exact bd_ret (pd_call F2 hr (pds_cons (pd_tup (pds_cons (pd_var 0 rfl a) (pds_one (pd_var 1 rfl b)))) (pds_one (pd_tup (pds_cons (pd_tup (pds_one pd_int)) (pds_cons (pd_tup (pds_one pd_int)) (pds_one (pd_tup (pds_cons pd_int (pds_one pd_int))))))))) ⟨_, _, [s, u], [[0], [1], [0, 1]], rfl, fin_t.mpr ⟨by show 2 ≤ 1000; decide, fun d hd => by
      rcases List.mem_cons.mp hd with rfl | hd
      · exact hx
      · rw [List.mem_singleton.mp hd]; exact hy⟩, by show PyData.tuple [tupM x, tupM y] = _; rw [ex, ey]; rfl, ok, rfl, rfl, rfl⟩)
def pre_all_but : List PyData → PyData → Prop := fun ds d => ∃ x s, ds = [x] ∧ fin 3 x = true ∧ tupM x = encS s ∧ SsOk [s] ∧ d = encS (byFlags [s] [[]])
theorem df_all_but (F : At K mg "all_but" s_all_but ["span"]) (F2 : Df P w K mg base 7 "by_rows" ["spans", "rows"] (spD K preRows)) : Df P w K mg base 8 "all_but" ["span"] (spD K pre_all_but) := by
  refine df_mk F c_all_but (fun ds d h => ?_) fun f cdv A outer s H E vs R ds d hr dv h => ?_
  · obtain ⟨_, _, rfl, _⟩ := h; rfl
  · obtain ⟨x, s, rfl, hx, ex, ok, rfl⟩ := h
    obtain ⟨v1, rfl, a⟩ := DvAll.one' dv
    exact bd_ret (pd_call F2 hr (pds_cons (pd_tup (pds_one (pd_var 0 rfl a))) (pds_one (pd_tup (pds_one (pd_tup pds_nil))))) ⟨_, _, [s], [[]], rfl, fin_t.mpr ⟨by show 1 ≤ 1000; decide, fun d hd => by rw [List.mem_singleton.mp hd]; exact hx⟩, by show PyData.tuple [tupM x] = _; rw [ex]; rfl, ok, rfl, rfl, rfl⟩)
def pre_taken_out : List PyData → PyData → Prop := fun ds d => ∃ x y s u, ds = [x, y] ∧ fin 3 x = true ∧ tupM x = encS s ∧ fin 3 y = true ∧ tupM y = encS u ∧ SsOk [s, u] ∧ d = encS (byFlags [s, u] [[0]])
theorem df_taken_out (F : At K mg "taken_out" s_taken_out ["one", "other"]) (F2 : Df P w K mg base 7 "by_rows" ["spans", "rows"] (spD K preRows)) : Df P w K mg base 8 "taken_out" ["one", "other"] (spD K pre_taken_out) := by
  refine df_mk F c_taken_out (fun ds d h => ?_) fun f cdv A outer s H E vs R ds d hr dv h => ?_
  · obtain ⟨_, _, _, _, rfl, _⟩ := h; rfl
  · obtain ⟨x, y, s, u, rfl, hx, ex, hy, ey, ok, rfl⟩ := h
    obtain ⟨v1, v2, rfl, a, b⟩ := DvAll.two' dv
    exact bd_ret (pd_call F2 hr (pds_cons (pd_tup (pds_cons (pd_var 0 rfl a) (pds_one (pd_var 1 rfl b)))) (pds_one (pd_tup (pds_one (pd_tup (pds_one pd_int)))))) ⟨_, _, [s, u], [[0]], rfl, fin_t.mpr ⟨by show 2 ≤ 1000; decide, fun d hd => by
      rcases List.mem_cons.mp hd with rfl | hd
      · exact hx
      · rw [List.mem_singleton.mp hd]; exact hy⟩, by show PyData.tuple [tupM x, tupM y] = _; rw [ex, ey]; rfl, ok, rfl, rfl, rfl⟩)
def pre_is_inside : List PyData → PyData → Prop := fun ds d => ∃ x y s u, ds = [x, y] ∧ fin 3 x = true ∧ tupM x = encS s ∧ fin 3 y = true ∧ tupM y = encS u ∧ SsOk [s, u] ∧ d = .bool (byFlags [s, u] [[0]]).isEmpty
theorem df_is_inside (F : At K mg "is_inside" s_is_inside ["one", "other"]) (F2 : Df P w K mg base 8 "taken_out" ["one", "other"] (spD K pre_taken_out)) : Df P w K mg base 9 "is_inside" ["one", "other"] (spD K pre_is_inside) := by
  refine df_mk F c_is_inside (fun ds d h => ?_) fun f cdv A outer s H E vs R ds d hr dv h => ?_
  · obtain ⟨_, _, _, _, rfl, _⟩ := h; rfl
  · obtain ⟨x, y, s, u, rfl, hx, ex, hy, ey, ok, rfl⟩ := h
    obtain ⟨v1, v2, rfl, a, b⟩ := DvAll.two' dv
    refine bd_ret (PD.eq (pd_eq hr.units (pd_call F2 hr (pds_cons (pd_var 0 rfl a) (pds_one (pd_var 1 rfl b))) ⟨x, y, s, u, rfl, hx, ex, hy, ey, ok, rfl⟩) (pd_tup pds_nil) (shaped_flags ok _) rfl) ?_)
    unfold encS
    rw [eqv_nilT]
    unfold encPs
    cases byFlags [s, u] [[0]] <;> rfl
def pre_are_apart : List PyData → PyData → Prop := fun ds d => ∃ x y s u, ds = [x, y] ∧ fin 3 x = true ∧ tupM x = encS s ∧ fin 3 y = true ∧ tupM y = encS u ∧ SsOk [s, u] ∧ d = .bool (byFlags [s, u] [[0, 1]]).isEmpty
theorem df_are_apart (F : At K mg "are_apart" s_are_apart ["one", "other"]) (F2 : Df P w K mg base 8 "both_of" ["one", "other"] (spD K pre_both_of)) : Df P w K mg base 9 "are_apart" ["one", "other"] (spD K pre_are_apart) := by
  refine df_mk F c_are_apart (fun ds d h => ?_) fun f cdv A outer s H E vs R ds d hr dv h => ?_
  · obtain ⟨_, _, _, _, rfl, _⟩ := h; rfl
  · obtain ⟨x, y, s, u, rfl, hx, ex, hy, ey, ok, rfl⟩ := h
    obtain ⟨v1, v2, rfl, a, b⟩ := DvAll.two' dv
    refine bd_ret (PD.eq (pd_eq hr.units (pd_call F2 hr (pds_cons (pd_var 0 rfl a) (pds_one (pd_var 1 rfl b))) ⟨x, y, s, u, rfl, hx, ex, hy, ey, ok, rfl⟩) (pd_tup pds_nil) (shaped_flags ok _) rfl) ?_)
    unfold encS
    rw [eqv_nilT]
    unfold encPs
    cases byFlags [s, u] [[0, 1]] <;> rfl
def pre_parting : List PyData → PyData → Prop := fun ds d => ∃ x y s u, ds = [x, y] ∧ fin 3 x = true ∧ tupM x = encS s ∧ fin 3 y = true ∧ tupM y = encS u ∧ SsOk [s, u] ∧ d = encO ((byFlags [s, u] [[0], [1]]).head?.map (·.1))
theorem df_parting_version (F : At K mg "parting_version" s_parting_version ["one", "other"]) (F2 : Df P w K mg base 7 "by_rows" ["spans", "rows"] (spD K preRows)) : Df P w K mg base 8 "parting_version" ["one", "other"] (spD K pre_parting) := by
  refine df_mk F c_parting_version (fun ds d h => ?_) fun f cdv A outer s H E vs R ds d hr dv h => ?_
  · obtain ⟨_, _, _, _, rfl, _⟩ := h; rfl
  · obtain ⟨x, y, s, u, rfl, hx, ex, hy, ey, ok, rfl⟩ := h
    obtain ⟨v1, v2, rfl, a, b⟩ := DvAll.two' dv
    refine bd_set 2 c_parting_version.nd (pd_call F2 hr (pds_cons (pd_tup (pds_cons (pd_var 0 rfl a) (pds_one (pd_var 1 rfl b)))) (pds_one (pd_tup (pds_cons (pd_tup (pds_one pd_int)) (pds_one (pd_tup (pds_one pd_int))))))) ⟨_, _, [s, u], [[0], [1]], rfl, fin_t.mpr ⟨by show 2 ≤ 1000; decide, fun d hd => by
      rcases List.mem_cons.mp hd with rfl | hd
      · exact hx
      · rw [List.mem_singleton.mp hd]; exact hy⟩, by show PyData.tuple [tupM x, tupM y] = _; rw [ex, ey]; rfl, ok, rfl, rfl, rfl⟩) fun v3 R1 s1 dv3 => ?_
    have sh := shaped_flags ok [[0], [1]]
    generalize byFlags [s, u] [[0], [1]] = sp at dv3 sh
    cases sp with
    | nil => exact bd_ret (PD.eq (pd_if (d1 := .none) (ptd_ne hr.units (pd_var 2 rfl dv3) (pd_tup pds_nil) sh rfl) (fun z => by cases z) fun _ => pd_non) rfl)
    | cons p t => exact bd_ret (PD.eq (pd_if (d2 := .none) (ptd_ne hr.units (pd_var 2 rfl dv3) (pd_tup pds_nil) sh rfl) (fun _ => pd_ix (f := tupI p.1) (ds := [tupI p.1, encO p.2]) (pd_ix (f := encP p) (ds := encPs (p :: t)) (pd_var 2 rfl dv3) pd_int .t (atI_zero _ _)) pd_int .t rfl) fun z => by cases z) rfl)
end
end NF

set_option Elab.async false
set_option linter.all false
set_option maxRecDepth 100000
set_option maxHeartbeats 2000000
namespace NF
open PySem PySem.Spec PyProof.Rows L2
theorem sw_parF {X : Cx} {t : Option Addr} {n : Nat} {rest : List Stmt} {a b : Expr} {σ : L2.St} {R0 P R : Hp} {N : Nat → L2.St → Hp → Prop} {T : Nat → PyData → Prop} {ds : List PyData} {d2 : PyData} {pos : Pos}
    (i j : Nat) {x y : Str} {px py pt : Pos} {kt k2 : Nat} {pt2 : Pos} (hc : X.calm = true) (nd : X.N.Nodup) (hij : i ≠ j) (ha : FL X a σ R ds) (hb : PD X b σ R d2)
    (q : ∀ l xs w R1, Same R R1 → R1 l = some (.lst xs) → DvAll X.K R1 xs ds → Dv X.K R1 w d2 → R0 l = none → R l = none → P l = none → SW X t n rest ((σ.set i (some (.ref l))).set j (some w)) R0 P R1 N T)
    (hw : swappedStores [.Tuple [.Name x px, .Name y py] kt pt] (.Tuple [a, b] k2 pt2) X.env = pure (some [x, y])) (hi : X.N[i]? = some x := by rfl) (hj : X.N[j]? = some y := by rfl)
    (hx : X.env.scope.names.lookup x = some .local := by rfl) (hy : X.env.scope.names.lookup y = some .local := by rfl)
    (hs : swapsWithSole [.Tuple [.Name x px, .Name y py] kt pt] (.Tuple [a, b] k2 pt2) pos.line X.env = pure false := by rfl) (he1 : starEach [a, b] X.env = (false, eval a X.env) :: starEach [b] X.env := by rfl) (he2 : starEach [b] X.env = (false, eval b X.env) :: starEach [] X.env := by rfl) :
    SW X t n (.Assign [.Tuple [.Name x px, .Name y py] kt pt] (.Tuple [a, b] k2 pt2) pos :: rest) σ R0 P R N T :=
  .of (pss_cons (ps_par hc nd hi hj hij hx hy (pa_cons pe_fl (pa_cons pe_pd pa_nil he2) he1) hw hs) pss_sw) fun H0 H D bx g sp kn kt => ⟨R, ds, g.inn.trans (hid_le t H), ha, fun l xs H' R' g' hl r dv => ⟨R', d2, g'.inn, hb.mono g'.sub, fun w H2 R2 g2 dw => by
    obtain ⟨g1, b1⟩ := (g'.trans g2).box g.inn bx
    have rl : R l = none := (g.inn.trans (hid_le t H)).free hl
    exact ⟨.ref l, w, rfl, t, n, R0, P, R2, H0, N, T, b1, g.trans g1, sp.trans (g'.sub.trans g2.sub), q l xs w R2 (g'.sub.trans g2.sub) (g2.sub _ _ r) (DvAll_mono g2.sub dv) dw (g.sub.free rl) rl (sp.free rl), kn, kt⟩⟩⟩
/-- all that is read isn't written -/
theorem sw_all {X : Cx} {t : Option Addr} {n : Nat} {body : List Stmt} {σ : L2.St} {R0 P R : Hp} {N : Nat → L2.St → Hp → Prop} {T : Nat → PyData → Prop} (sp : Same P R) (h : SW X t n body σ R0 R R N T) : SW X t n body σ R0 P R N T := sw_moreP h sp (Same.refl _)
section
variable {P : Program} {w : World} {K : PySem.W.Frag} {mg : Str → Option Value} {base : Heap}
def pre_settled : List PyData → PyData → Prop := fun ds d => ∃ vs : List Ver, ds = [.list (vs.map tupI)] ∧ (∀ v ∈ vs, v ≠ []) ∧ vs.length < 64 ∧ d = .tuple ((settle vs).map tupI)
def pre_every : List PyData → PyData → Prop := fun ds d => ds = [] ∧ d = encS [(first, none)]
def pre_points : List PyData → PyData → Prop := fun ds d => ∃ t ss, ds = [t] ∧ SeqD t (ss.map encS) ∧ SsOk ss ∧ d = .tuple ((cuts ss).map tupI)
def pre_numbers : List PyData → PyData → Prop := fun ds d => ∃ t ss v, ds = [t, tupI v] ∧ SeqD t (ss.map encS) ∧ SsOk ss ∧ d = tupI (nums ss v)
def pre_span_of : List PyData → PyData → Prop := fun ds d => ∃ (l : List (Bool × Ver)) (p : PyData), ds = [.list (l.map fun z => .bool z.1), p] ∧ SeqD p (l.map fun z => tupI z.2) ∧ l.length ≤ 500 ∧ d = encS (spanOf l)
def pre_by_flags : List PyData → PyData → Prop := fun ds d => ∃ t ss r rows, ds = [t, r] ∧ SeqD t (ss.map encS) ∧ SsOk ss ∧ SeqD r (rows.map tupI) ∧ SeqAt.shaped r = true ∧ d = encS (byFlags ss rows)
theorem df_settled (F : At K mg "_law_settled" s_law_settled ["_law_rows_so"]) (B : Blt mg) : Df P w K mg base 1 "_law_settled" ["_law_rows_so"] (spD K pre_settled) := by
  refine df_mk F c_law_settled (fun ds d h => ?_) fun f cdv A outer s H E vs R ds d hr dv h => ?_
  · obtain ⟨_, rfl, _⟩ := h; rfl
  · obtain ⟨vs, rfl, hne, hl, rfl⟩ := h
    obtain ⟨v, rfl, a⟩ := DvAll.one' dv
    exact bd_ret (pd_tuple B (pd_sortSet rfl hr.units B (pd_var 0 rfl a) hne hl) .l)
theorem pd_first {X : Cx} {σ : L2.St} {R : Hp} {p0 p1 p2 p3 p4 p5 : Pos} {k1 k2 k3 k4 k5 : Nat} (h : PDs X [.Constant (.int 0) k1 p0, .Constant (.int 0) k2 p1, .Constant (.int 0) k3 p2, .UnaryOp .USub (.Constant (.int 9) k4 p3) p4] σ R [.int 0, .int 0, .int 0, .int (-9)]) : PD X (.Tuple [.Constant (.int 0) k1 p0, .Constant (.int 0) k2 p1, .Constant (.int 0) k3 p2, .UnaryOp .USub (.Constant (.int 9) k4 p3) p4] k5 p5) σ R (tupI first) := pd_tup h
theorem df_every (F : At K mg "_law_every" s_law_every []) : Df P w K mg base 1 "_law_every" [] (spD K pre_every) := by
  refine df_mk F c_law_every (fun ds d h => ?_) fun f cdv A outer s H E vs R ds d hr dv h => ?_
  · obtain ⟨rfl, _⟩ := h; rfl
  · obtain ⟨rfl, rfl⟩ := h
    cases dv
    exact bd_ret (pd_tup (pds_one (pd_tup (pds_cons (pd_tup (pds_cons pd_int (pds_cons pd_int (pds_cons pd_int (pds_one (pd_neg pd_int)))))) (pds_one pd_non)))))
theorem df_held (F : At K mg "_law_held" s_law_held ["_law_span_so", "_law_version_so"]) (B : Blt mg) : Df P w K mg base 1 "_law_held" ["_law_span_so", "_law_version_so"] (spD K preInn) := by
  refine df_mk F c_law_held (fun ds d h => ?_) fun f cdv A outer s H E vs R ds d hr dv h => ?_
  · obtain ⟨p, v, rfl, _⟩ := h; rfl
  · obtain ⟨sp, x, rfl, hl, rfl⟩ := h
    obtain ⟨v, u, rfl, a, b⟩ := DvAll.two' dv
    have sh : SeqAt.shaped (.list (sp.filterMap fun p => if holdsP p x = true then some (.int 1) else none)) = true := fin_shaped (n := 1) (fin_l.mpr ⟨Nat.le_trans (List.length_filterMap_le ..) hl, fun d hd => by
      obtain ⟨p, _, e⟩ := List.mem_filterMap.mp hd
      split at e
      · cases e; rfl
      · cases e⟩)
    refine bd_ret (PD.eq (pd_ne hr.units (pd_lcT (l := sp) (enc := encP) (own := [("_law_low_so", 2), ("_law_high_so", 3)]) (g := gTup K 2 (gCons (gName 2) (gCons (gName 3) gNil))) (f := fun p => if holdsP p x = true then some (.int 1) else none) rfl c_law_held.nd (pid_seq (pd_var 0 rfl a) .t) (blkOk_by (by show blkC n_law_held (defScope s_law_held) _ _ = true; decide +kernel)) (Nat.le_trans hl (by decide)) (fun _ _ _ _ _ => pg2 2 3 rfl c_law_held.nd)
      (fun p v R1 H1 kk hd s1 s2 dv q2 => g_two s2 dv fun v1 v2 h1 h2 => q2 _ rfl (lcb_if (fun _ _ _ _ _ => ?_) fun _ _ _ _ _ _ => pd_int))) (pd_lst pds_nil) sh rfl) ?_)
    · obtain ⟨lo, hi⟩ := p
      cases hi with
      | none => exact PTD.eq (ptd_and (ptd_leT hr.units0 (pd_var 2 rfl h1) (pd_var 1 rfl (Dv_mono s1 b))) fun _ => pwd_and1 (ptd_or (y := true) (ptd_isN (pd_var 3 rfl h2)) fun z => by cases z)) (by rw [lexLeI_eq]; rfl)
      | some h => exact PTD.eq (ptd_and (ptd_leT hr.units0 (pd_var 2 rfl h1) (pd_var 1 rfl (Dv_mono s1 b))) fun _ => pwd_and1 (ptd_or (ptd_isN (pd_var 3 rfl h2)) fun _ => pwd_or1 (ptd_ltT hr.units0 (pd_var 1 rfl (Dv_mono s1 b)) (pd_var 3 rfl h2)))) (by rw [lexLeI_eq, lexLt_eq]; rfl)
    · rw [eqv_nilL]
      clear sh hl a dv
      unfold inn
      congr 1
      induction sp with
      | nil => rfl
      | cons p sp ih =>
        rw [List.any_cons]
        by_cases hp : holdsP p x = true
        · rw [List.filterMap_cons_some (b := PyData.int 1) (by simp [hp]), hp]
          rfl
        · rw [List.filterMap_cons_none (by simp [hp]), ih]
          simp [hp]
theorem df_numbers (F : At K mg "_law_numbers" s_law_numbers ["_law_spans_so", "_law_version_so"]) (B : Blt mg) (F1 : Df P w K mg base 1 "_law_held" ["_law_span_so", "_law_version_so"] (spD K preInn)) : Df P w K mg base 2 "_law_numbers" ["_law_spans_so", "_law_version_so"] (spD K pre_numbers) := by
  refine df_mk F c_law_numbers (fun ds d h => ?_) fun f cdv A outer s H E vs R ds d hr dv h => ?_
  · obtain ⟨p, _, _, rfl, _⟩ := h; rfl
  · obtain ⟨t, ss, x, rfl, q, ok, rfl⟩ := h
    obtain ⟨v, u, rfl, a, b⟩ := DvAll.two' dv
    refine bd_ret (pd_tuple B (PD.eq (pd_lcT (l := enumL 0 ss) (enc := fun z => .tuple [.int (z.1 : Nat), encS z.2]) (own := [("_law_k", 2), ("_law_own", 3)]) (g := gTup K 2 (gCons (gName 2) (gCons (gName 3) gNil))) (f := fun z => if inn z.2 x = true then some (.int (z.1 : Nat)) else none) rfl c_law_numbers.nd ?_ (blkOk_by (by show blkC n_law_numbers (defScope s_law_numbers) _ _ = true; decide +kernel)) ?_
        (fun _ _ _ _ _ => pg2 2 3 rfl c_law_numbers.nd) (fun z v R1 H1 kk hd s1 s2 dv q2 => ?_)) (congrArg PyData.list (enumL_nums x 0 ss))) .l)
    · rw [← enumD_enc]
      exact pid_enum B (pd_var 0 rfl a) q
    · rw [enumL_len]; exact Nat.le_trans ok.num (by decide)
    · refine g_two s2 dv fun v1 v2 h1 h2 => q2 _ rfl (lcb_if (fun _ _ _ _ _ => ptd (pd_call F1 hr (pds_cons (pd_var 3 rfl h2) (pds_one (pd_var 1 rfl (Dv_mono s1 b)))) ⟨z.2, x, rfl, Nat.le_trans (ok.len (enumL_mem hd)) (by decide), rfl⟩)) fun _ _ _ _ _ _ => pd_var 2 rfl h1)
theorem df_points (F : At K mg "_law_points" s_law_points ["_law_spans_so"]) (B : Blt mg) (F1 : Df P w K mg base 1 "_law_settled" ["_law_rows_so"] (spD K pre_settled)) : Df P w K mg base 2 "_law_points" ["_law_spans_so"] (spD K pre_points) := by
  refine df_sw F c_law_points (fun ds d h => ?_) fun f cdv A outer s H E vs R ds d hr dv h => ?_
  · obtain ⟨_, _, rfl, _⟩ := h; rfl
  · obtain ⟨t, ss, rfl, q, ok, rfl⟩ := h
    obtain ⟨v, rfl, a⟩ := DvAll.one' dv
    refine sw_setD (d := .list (([first] : List Ver).map tupI)) 1 c_law_points.nd (pd_lst (pds_one (pd_tup (pds_cons pd_int (pds_cons pd_int (pds_cons pd_int (pds_one (pd_neg pd_int)))))))) fun v1 R1 s1 dv1 => ?_
    refine sw_forT (l := ss) (enc := encS) (fun i σ R => ∃ (u1 : V) (u2 u3 u4 : Option V), σ = [some v, some u1, u2, u3, u4] ∧ Dv K R u1 (.list ((first :: ends (ss.take i)).map tupI)))
      PassesOwn.never rfl (pid_seq (pd_var 0 rfl a) q) (pg_name (i := 2) c_law_points.nd rfl (Or.inl rfl)) (fun R2 s2 => ⟨v1, none, none, none, rfl, Dv_mono s2 dv1⟩)
      (fun i σ R R' h s => ?_) (fun i sp u j σ' R' P1 H1 k hsp hfree pv sP1 du sH kk => ?_) (fun j σ' R' pv sP => ?_)
    · obtain ⟨u1, u2, u3, u4, e, d1⟩ := h
      exact ⟨u1, u2, u3, u4, e, Dv_mono s d1⟩
    · obtain ⟨u1, u2, u3, u4, rfl, d1⟩ := pv
      refine kk _ (sw_all sP1 ?_)
      have hsl : (ends (ss.take (i + 1))).length ≤ 62 := Nat.le_trans (ends_take_le ss (i + 1)) ok.few
      rw [ends_take hsp, List.length_append] at hsl
      refine sw_forT (l := sp) (enc := encP) (fun i' σ R => ∃ (u1 : V) (u3 u4 : Option V), σ = [some v, some u1, some u, u3, u4] ∧ Dv K R u1 (.list ((first :: (ends (ss.take i) ++ endsS (sp.take i'))).map tupI)))
        PassesOwn.never rfl (pid_seq (pd_var 2 rfl du) .t) (pg2 3 4 rfl c_law_points.nd) (fun R2 s2 => ⟨u1, u3, u4, rfl, by
          have : ends (ss.take i) ++ endsS (sp.take 0) = ends (ss.take i) := by simp [endsS]
          rw [this]; exact Dv_mono s2 d1⟩)
        (fun i σ R R' h s => ?_) (fun i' p u' j' σ' R2 P2 H2 k2 hp hfree2 pv2 sP2 du2 sH2 kk2 => ?_) (fun j' σ' R2 pv2 sP2 => ?_)
      · obtain ⟨u1, u3, u4, e, d1⟩ := h
        exact ⟨u1, u3, u4, e, Dv_mono s d1⟩
      · obtain ⟨u1, u3, u4, rfl, d1'⟩ := pv2
        obtain ⟨lo, hi⟩ := p
        have hel : (endsS (sp.take i')).length ≤ (endsS sp).length := endsS_take_le sp i'
        refine g_two sH2 du2 fun v1 v2 h1 h2 => kk2 _ ?_
        have big : 200 ≤ sizeLine := by decide
        refine sw_setD (d := .list ((first :: (ends (ss.take i) ++ endsS (sp.take (i' + 1)))).map tupI)) 1 c_law_points.nd (PD.eq (pd_cat (fs := hi.toList.map tupI) (pd_cat (pd_var 1 rfl d1') (pd_lst (pds_one (pd_var 3 rfl h1))) ?_) ?_ ?_) ?_) fun v3 R3 s3 dv3 => sw_nil ⟨v3, some v1, some v2, rfl, dv3⟩
        · rw [List.length_map, List.length_cons, List.length_append, List.length_singleton]
          exact Nat.le_trans (by omega) big
        · cases hi with
          | none => exact PD.eq (pd_if (d2 := .none) (ptd_isN (pd_var 4 rfl h2)) (fun _ => pd_lst pds_nil) fun z => by cases z) rfl
          | some h => exact PD.eq (pd_if (d1 := .none) (ptd_isN (pd_var 4 rfl h2)) (fun z => by cases z) fun _ => pd_lst (pds_one (pd_var 4 rfl h2))) rfl
        · rw [List.length_append, List.length_map, List.length_cons, List.length_append, List.length_singleton, List.length_map]
          have : hi.toList.length ≤ 1 := by cases hi <;> simp
          exact Nat.le_trans (by omega) big
        · rw [endsS_take hp]
          simp [endsP]
      · obtain ⟨u1, u3, u4, rfl, d1'⟩ := pv2
        rw [List.take_length] at d1'
        exact sw_nil ⟨u1, some u, u3, u4, rfl, by rw [ends_take hsp]; exact d1'⟩
    · obtain ⟨u1, u2, u3, u4, rfl, d1⟩ := pv
      rw [List.take_length] at d1
      refine sw_retD (pd_call F1 (hr.mono (by decide)) (pds_one (pd_var 1 rfl d1)) ⟨first :: ends ss, rfl, fun x hx => ?_, ?_, rfl⟩) rfl
      · rcases List.mem_cons.mp hx with z | z
        · rw [z]; exact List.cons_ne_nil _ _
        · exact (ok.ver _ z).1
      · rw [List.length_cons]; have := ok.few; omega
end
end NF

set_option Elab.async false
set_option linter.all false
set_option maxRecDepth 100000
set_option maxHeartbeats 2000000
namespace NF
open PySem PySem.Spec PyProof.Rows L2
/-- the runs so far -/
def runS : List (Bool × Ver) → Span → Bool → Span × Bool
  | [], acc, last => (acc, last)
  | (f, p) :: r, acc, last => runS r (stepS acc last f p) f
theorem runS_fst : ∀ (l : List (Bool × Ver)) (acc : Span) (last : Bool), (runS l acc last).1 = spanR l acc last
  | [], _, _ => rfl
  | (f, p) :: r, acc, last => by rw [runS, spanR, runS_fst r]
theorem runS_app : ∀ (l m : List (Bool × Ver)) (acc : Span) (last : Bool), runS (l ++ m) acc last = runS m (runS l acc last).1 (runS l acc last).2
  | [], _, _, _ => rfl
  | (f, p) :: r, m, acc, last => by rw [List.cons_append, runS, runS, runS_app r m]
theorem runS_take {l : List (Bool × Ver)} {i : Nat} {f : Bool} {p : Ver} (h : l[i]? = some (f, p)) (acc : Span) (last : Bool) : runS (l.take (i + 1)) acc last = (stepS (runS (l.take i) acc last).1 (runS (l.take i) acc last).2 f p, f) := by
  rw [take_next h, runS_app]
  rfl
def headUp (p : Ver) : Span → Span
  | [] => []
  | (l, _) :: t => (l, some p) :: t
theorem stepS_eq (acc : Span) (last f : Bool) (p : Ver) : stepS acc last f p = if last && !f then headUp p (if f && !last then (p, none) :: acc else acc) else (if f && !last then (p, none) :: acc else acc) := by
  unfold stepS headUp
  rfl
theorem stepS_len (acc : Span) (last f : Bool) (p : Ver) : (stepS acc last f p).length ≤ acc.length + 1 := by
  cases last <;> cases f
  · simp [stepS]
  · simp [stepS]
  · cases acc with
    | nil => simp [stepS]
    | cons q t => simp [stepS]
  · simp [stepS]
theorem stepS_head {acc : Span} {last f : Bool} {p : Ver} (h : last = true → acc ≠ []) : f = true → stepS acc last f p ≠ [] := by
  intro e
  subst e
  cases last with
  | false => simp [stepS]
  | true => simpa [stepS] using h rfl
theorem zip_flags (l : List (Bool × Ver)) : zipD (l.map fun z => .bool z.1) (l.map fun z => tupI z.2) = l.map fun z => .tuple [.bool z.1, tupI z.2] := by
  unfold zipD
  rw [List.zipWith_map]
  induction l with
  | nil => rfl
  | cons z l ih => rw [List.zipWith_cons_cons, ih]; rfl
section
variable {P : Program} {w : World} {K : PySem.W.Frag} {mg : Str → Option Value} {base : Heap}
theorem df_span_of (F : At K mg "_law_span_of" s_law_span_of ["_law_flags_so", "_law_points_so"]) (B : Blt mg) : Df P w K mg base 1 "_law_span_of" ["_law_flags_so", "_law_points_so"] (spD K pre_span_of) := by
  refine df_sw F c_law_span_of (fun ds d h => ?_) fun f cdv A outer s H E vs R ds d hr dv h => ?_
  · obtain ⟨_, _, rfl, _⟩ := h; rfl
  · obtain ⟨fl, pd, rfl, q, hl5, rfl⟩ := h
    obtain ⟨v, u, rfl, a, b⟩ := DvAll.two' dv
    refine sw_parF 2 3 rfl c_law_span_of.nd (by decide) fl_nil pd_bool (fun l xs w0 R1 s1 r1 dx dw h0 hR hP => ?_) rfl
    cases dx
    cases dw
    refine sw_forT (l := fl) (enc := fun z => .tuple [.bool z.1, tupI z.2]) (fun i σ R => ∃ (xs : List V) (u4 u5 : Option V), σ = [some v, some u, some (V.ref l), some (V.bl (runS (fl.take i) [] false).2), u4, u5] ∧ R l = some (.lst xs) ∧ DvAll K R xs ((runS (fl.take i) [] false).1.reverse.map encP) ∧ ((runS (fl.take i) [] false).2 = true → (runS (fl.take i) [] false).1 ≠ []) ∧ (runS (fl.take i) [] false).1.length ≤ i ∧ i ≤ 500)
      PassesOwn.never rfl ?_ (pg2 4 5 rfl c_law_span_of.nd) (fun R2 s2 => ⟨[], none, none, rfl, s2 _ _ r1, .nil, fun z => (nomatch z), Nat.le_refl _, Nat.zero_le _⟩)
      (fun i σ R R' h s => ?_) (fun i p u0 j σ' R' P1 H1 k hp hfree pv sP1 du sH kk => ?_) (fun j σ' R' pv sP => ?_)
    · rw [← zip_flags]
      exact pid_zip B (pd_var 0 rfl a) .l (pd_var 1 rfl b) q
    · obtain ⟨xs, u4, u5, e, d1, d2, d3⟩ := h
      exact ⟨xs, u4, u5, e, s _ _ d1, DvAll_mono s d2, d3⟩
    · obtain ⟨xs, u4, u5, rfl, d1, d2, d3, d4, d5⟩ := pv
      have hi5 : i < 500 := by
        have := (List.getElem?_eq_some_iff.mp hp).1
        omega
      have hP1 : P1 l = none := hfree l (by rw [r1]; exact fun z => nomatch z) hP
      obtain ⟨fg, pt⟩ := p
      have hrun := runS_take hp [] false
      have hlen1 := stepS_len (runS (fl.take i) [] false).1 (runS (fl.take i) [] false).2 fg pt
      have hhead := stepS_head (f := fg) (p := pt) d3
      generalize (runS (fl.take i) [] false).1 = acc at d2 d3 d4 hlen1 hhead hrun ⊢
      generalize (runS (fl.take i) [] false).2 = last at d3 hlen1 hhead hrun ⊢
      refine g_two sH du fun v1 v2 h1 h2 => kk _ ?_
      cases h1
      have lxs : xs.length = acc.length := by rw [DvAll.len d2, List.length_map, List.length_reverse]
      refine sw_ifD (M := fun m σ' R' => m = j ∧ ∃ xs : List V, σ' = [some v, some u, some (V.ref l), some (V.bl last), some (V.bl fg), some v2] ∧ R' l = some (.lst xs) ∧ DvAll K R' xs ((if fg && !last then (pt, none) :: acc else acc).reverse.map encP) ∧ Dv K R' v2 (tupI pt)) (b := fg && !last)
        (ptd_and (ptd (pd_var 4 rfl (.bl fg))) fun _ => pwd_and1 (ptd_not (ptd (pd_var 3 rfl (.bl last))))) (fun hb R3 s3 => ?_) (fun hb R3 s3 => ?_) (fun m σ' R4 sP4 h => ?_)
      · rw [hb]
        refine sw_app (i := 2) (W := fun m d => m = j ∧ d = encP (pt, none)) rfl (s3 _ _ d1) h0 hP1 (lt_line (by rw [lxs]; omega)) (ew_pd (pd_tup (pds_cons (pd_var 5 rfl (Dv_mono s3 h2)) (pds_one pd_non))) ⟨rfl, rfl⟩) fun vn R4 m d s4 dvn ⟨em, ed⟩ r4 => ?_
        subst ed
        refine sw_nil ⟨em, _, rfl, upd_same, ?_, (Dv_mono (s3.trans s4) h2).over r4 (noL_tupI _)⟩
        show DvAll K _ _ (((pt, none) :: acc).reverse.map encP)
        rw [List.reverse_cons, List.map_append]
        exact ((DvAll_mono (s3.trans s4) d2).over r4 (noL_encPs _)).app (.cons (dvn.over r4 (noL_encP _)) .nil)
      · rw [hb]
        exact sw_nil ⟨rfl, xs, rfl, s3 _ _ d1, DvAll_mono s3 d2, Dv_mono s3 h2⟩
      · obtain ⟨em, ys, rfl, e1, e2, e3⟩ := h
        subst em
        generalize hac1 : (if fg && !last then (pt, none) :: acc else acc) = acc1 at e2
        have hst : stepS acc last fg pt = if last && !fg then headUp pt acc1 else acc1 := by rw [← hac1]; exact stepS_eq acc last fg pt
        refine sw_ifD (M := fun m σ' R' => m = m ∧ ∃ xs : List V, σ' = [some v, some u, some (V.ref l), some (V.bl last), some (V.bl fg), some v2] ∧ R' l = some (.lst xs) ∧ DvAll K R' xs ((stepS acc last fg pt).reverse.map encP)) (b := last && !fg)
          (ptd_and (ptd (pd_var 3 rfl (.bl last))) fun _ => pwd_and1 (ptd_not (ptd (pd_var 4 rfl (.bl fg))))) (fun hb R5 s5 => ?_) (fun hb R5 s5 => ?_) (fun m σ' R6 sP6 h => ?_)
        · have hlast : last = true := by cases last <;> simp at hb ⊢
          have hfg : fg = false := by cases fg <;> simp [hlast] at hb ⊢
          have ea : acc1 = acc := by rw [← hac1, hfg]; rfl
          subst ea
          obtain ⟨l0, x0, t, rfl⟩ : ∃ l0 x0 t, acc1 = (l0, x0) :: t := by
            cases hA : acc1 with
            | nil => exact absurd hA (d3 hlast)
            | cons q t => exact ⟨q.1, q.2, t, rfl⟩
          have eR : ((l0, x0) :: t : Span).reverse.map encP = t.reverse.map encP ++ [encP (l0, x0)] := by rw [List.reverse_cons, List.map_append]; rfl
          have lys : ys.length = t.length + 1 := by rw [DvAll.len e2, List.length_map, List.length_reverse]; rfl
          have dfound : Dv K R5 (.ref l) (.list (t.reverse.map encP ++ [encP (l0, x0)])) := by rw [← eR]; exact .lst (s5 _ _ e1) (DvAll_mono s5 e2)
          refine sw_put (i := 2) (k := -1) (j := ys.length - 1) (W := fun m' d => m' = m ∧ d = encP (l0, some pt)) rfl (s5 _ _ e1) h0 hP1 (ixN_last (by omega)) (ew_pd (pd_tup (pds_cons (pd_ix (f := tupI l0) (ds := [tupI l0, encO x0]) (pd_ix (f := encP (l0, x0)) (pd_var 2 rfl dfound) (pd_neg pd_int) .l (atI_last _ _)) pd_int .t rfl) (pds_one (pd_var 5 rfl (Dv_mono s5 e3))))) ⟨rfl, rfl⟩) (fun _ _ => pd_neg pd_int) fun vn R6 m' d s6 dvn ⟨em, ed⟩ r6 => ?_
          subst ed
          have d2'' := (DvAll_mono (s5.trans s6) e2).over (o := .lst (ys.set (ys.length - 1) vn)) r6 (noL_encPs _)
          rw [eR] at d2''
          have d3'' := DvAll.set (dvn.over (o := .lst (ys.set (ys.length - 1) vn)) r6 (noL_encP _)) (ys.length - 1) d2''
          have el : ys.length - 1 = (t.reverse.map encP).length := by rw [lys, List.length_map, List.length_reverse]; rfl
          refine sw_nil ⟨rfl, _, rfl, upd_same, ?_⟩
          rw [hst, hlast, hfg]
          have e3' : (((l0, some pt) :: t : Span).reverse.map encP) = (t.reverse.map encP ++ [encP (l0, x0)]).set (ys.length - 1) (encP (l0, some pt)) := by
            rw [el, set_last, List.reverse_cons, List.map_append]
            rfl
          show DvAll K _ _ (((l0, some pt) :: t : Span).reverse.map encP)
          rw [e3']
          exact d3''
        · refine sw_nil ⟨rfl, ys, rfl, s5 _ _ e1, ?_⟩
          rw [hst, hb]
          exact DvAll_mono s5 e2
        · obtain ⟨_, zs, rfl, z1, z2⟩ := h
          exact sw_setD 3 c_law_span_of.nd (pd_var 4 rfl (.bl fg)) fun v3 R7 s7 dv3 => by
            cases dv3
            refine sw_nil ⟨zs, some (V.bl fg), some v2, ?_, s7 _ _ z1, ?_, ?_, ?_, by omega⟩
            · rw [hrun]; rfl
            · rw [hrun]; exact DvAll_mono s7 z2
            · rw [hrun]; exact hhead
            · rw [hrun]; show (stepS acc last fg pt).length ≤ i + 1; omega
    · obtain ⟨xs, u4, u5, rfl, d1, d2, d3⟩ := pv
      rw [List.take_length, runS_fst] at d2
      exact sw_retD (pd_tuple B (pd_var 2 rfl (.lst d1 d2)) .l) rfl
end
end NF

set_option Elab.async false
set_option linter.all false
set_option maxRecDepth 100000
set_option maxHeartbeats 2000000
namespace NF
open PySem PySem.Spec PyProof.Rows L2
def line1 : List Ver := [[0, 0, 0, -9], [0, 0, 0, 0], [0, 0, 1, -9], [0, 0, 1, 0], [0, 0, 3, -2], [0, 1, 0, -9], [0, 1, 0, 0], [0, 2, 5, -1]]
def line2 : List Ver := [[1, 0, 0, -9], [1, 0, 0, -2], [1, 0, 0, -1], [1, 0, 0, 0], [1, 0, 2, 0], [1, 0, 3, -9], [1, 1, 0, 0]]
def line3 : List Ver := [[2, 0, 0, -9], [2, 0, 0, -1], [2, 0, 0, 0], [2, 1, 0, 0], [3, 0, 0, -9], [3, 4, 1, -7]]
def line : List Ver := line1 ++ line2 ++ line3
theorem line_ok : ∀ v ∈ line, v.length = 4 ∧ vle first v := by decide +kernel
theorem line_nodup : line.Nodup := by decide +kernel
theorem line_len : line.length = 21 := by decide +kernel
theorem first_line : first ∈ line := by decide +kernel
/-- all subsets, in the law's order -/
def subsF : List Row → List Int → List Row
  | acc, [] => acc
  | acc, t :: ts => subsF (acc ++ acc.map fun o => o ++ [t]) ts
theorem subsF_app : ∀ (acc : List Row) (ts us : List Int), subsF acc (ts ++ us) = subsF (subsF acc ts) us
  | _, [], _ => rfl
  | acc, t :: ts, us => by rw [List.cons_append, subsF, subsF, subsF_app]
theorem subsF_len : ∀ (ts : List Int) (acc : List Row), (subsF acc ts).length = acc.length * 2 ^ ts.length
  | [], acc => by simp [subsF]
  | t :: ts, acc => by
    rw [subsF, subsF_len ts, List.length_append, List.length_map, List.length_cons, Nat.pow_succ, Nat.mul_comm (2 ^ ts.length) 2, ← Nat.mul_assoc]
    congr 1
    omega
theorem subsF_rows (k : Nat) : ∀ (ts : List Int) (acc : List Row), (∀ r ∈ acc, r.length ≤ k) → ∀ r ∈ subsF acc ts, r.length ≤ k + ts.length
  | [], acc, h, r, hr => h r hr
  | t :: ts, acc, h, r, hr => by
    rw [subsF] at hr
    have := subsF_rows (k + 1) ts _ (fun q hq => by
      rcases List.mem_append.mp hq with z | z
      · exact Nat.le_succ_of_le (h q z)
      · obtain ⟨o, ho, rfl⟩ := List.mem_map.mp z
        rw [List.length_append, List.length_singleton]
        exact Nat.succ_le_succ (h o ho)) r hr
    rw [List.length_cons]
    omega
def intL (n : Nat) : List Int := (List.range n).map fun i => ((i : Nat) : Int)
def subs (n : Nat) : List Row := subsF [[]] (intL n)
theorem subs_len (n : Nat) : (subs n).length = 2 ^ n := by
  unfold subs intL
  rw [subsF_len, List.length_map, List.length_range]
  simp
theorem subs_rows (n : Nat) : ∀ r ∈ subs n, r.length ≤ n := fun r hr => by
  have := subsF_rows 0 (intL n) [[]] (fun q hq => by rw [List.mem_singleton.mp hq]; exact Nat.le_refl _) r hr
  unfold intL at this
  rw [List.length_map, List.length_range] at this
  omega
def nextV (a b c e : Int) : Ver := if e < 0 then [a, b, c, e + 1] else [a, b, c + 1, -9]
theorem stepL_same {p : Ver} {k : Row} {l : Ver} {h : Option Ver} {m : Row} {t : List Gr} (e : m = k) : stepL ((l, h, m) :: t) p k = (l, h, m) :: t := if_pos e
theorem stepL_diff {p : Ver} {k : Row} {l : Ver} {h : Option Ver} {m : Row} {t : List Gr} (e : ¬ m = k) : stepL ((l, h, m) :: t) p k = (p, none, k) :: (l, some p, m) :: t := if_neg e
theorem grainsLR_append (ss : List Span) : ∀ (ps qs : List Ver) (acc : List Gr), grainsLR ss (ps ++ qs) acc = grainsLR ss qs (grainsLR ss ps acc)
  | [], _, _ => rfl
  | p :: ps, qs, acc => by rw [List.cons_append, grainsLR, grainsLR, grainsLR_append ss ps qs]
theorem grainsLR_take (ss : List Span) {ps : List Ver} {i : Nat} {p : Ver} (h : ps[i]? = some p) : grainsLR ss (ps.take (i + 1)) [] = stepL (grainsLR ss (ps.take i) []) p (nums ss p) := by
  rw [take_next h, grainsLR_append]
  rfl
section
variable {X : Cx} {e a b c : Expr} {σ : L2.St} {R R1 : Hp} {d r : PyData} {ds rs : List PyData} {rest : List Stmt} {pos : Pos}
theorem pd_inS (hu : X.A.units + 65 < cLine) (ha : PD X a σ R d) (hb : PD X b σ R r) (q : SeqD r ds) (s1 : SeqAt.shaped d = true) (s2 : SeqAt.shaped r = true) (hm : behindInMarks .In b = false := by rfl) : PD X (.Compare a [.In] [b] pos) σ R (.bool (ds.any fun z => PyData.eqv z d)) := by
  rcases q with rfl | rfl
  · exact pd_inL hu ha hb s1 s2 hm
  · exact pd_inT hu ha hb s1 s2 hm
/-- a, b, c, d = e -/
theorem bd_four {d1 d2 d3 d4 : PyData} (i j l m : Nat) {x y z w : Str} {px py pz pw pt : Pos} {kt : Nat} (hc : X.calm = true) (nd : X.N.Nodup) (he : PD X e σ R (.tuple [d1, d2, d3, d4]))
    (q : ∀ v1 v2 v3 v4 R1, Same R R1 → Dv X.K R1 v1 d1 → Dv X.K R1 v2 d2 → Dv X.K R1 v3 d3 → Dv X.K R1 v4 d4 → BD X rest ((((σ.set i (some v1)).set j (some v2)).set l (some v3)).set m (some v4)) R1 d)
    (hg : PG X (.Tuple [.Name x px, .Name y py, .Name z pz, .Name w pw] kt pt) (gTup X.K 4 (gCons (gName i) (gCons (gName j) (gCons (gName l) (gCons (gName m) gNil))))))
    (hw : swappedStores [.Tuple [.Name x px, .Name y py, .Name z pz, .Name w pw] kt pt] e X.env = pure none := by rfl)
    (hs : swapsWithSole [.Tuple [.Name x px, .Name y py, .Name z pz, .Name w pw] kt pt] e pos.line X.env = pure false := by rfl) (h1 : (assignEach [.Tuple [.Name x px, .Name y py, .Name z pz, .Name w pw] kt pt] X.env).map (·.2) = [assign (.Tuple [.Name x px, .Name y py, .Name z pz, .Name w pw] kt pt) X.env] := by rfl) :
    BD X (.Assign [.Tuple [.Name x px, .Name y py, .Name z pz, .Name w pw] kt pt] e pos :: rest) σ R d := ⟨fun pins s H Q I sb k =>
  (pss_cons (ps_asg pe_pd hg hs hw h1) pss_bd).run pins s σ H { nx := fun _ _ => False, rt := Q } I ⟨R, _, sb, he, fun v H' R' g dv => by
    obtain ⟨p, xs, rfl, hs', hx⟩ := dv.tupE
    cases hx with
    | cons a1 r1 =>
      cases r1 with
      | cons a2 r2 =>
        obtain ⟨v3, v4, rfl, a3, a4⟩ := DvAll.two' r2
        exact ⟨p, _, rfl, same_tup g.inn hs', rfl, _, _, rfl, _, _, rfl, v3, _, rfl, v4, [], rfl, rfl, R', d, g.inn, q _ _ v3 v4 R' g.sub a1 a2 a3 a4, fun v2 H2 R2 g2 dv2 => k v2 H2 R2 (g.trans g2) dv2⟩⟩⟩
end
section
variable {P : Program} {w : World} {K : PySem.W.Frag} {mg : Str → Option Value} {base : Heap}
def pre_line : List PyData → PyData → Prop := fun ds d => ds = [] ∧ d = .list (line.map tupI)
def pre_subsets : List PyData → PyData → Prop := fun ds d => ∃ n, ds = [.list (rangeD n)] ∧ n ≤ 6 ∧ d = .list ((subs n).map tupI)
def pre_next : List PyData → PyData → Prop := fun ds d => ∃ a b c e, ds = [tupI [a, b, c, e]] ∧ d = tupI (nextV a b c e)
def pre_law_grains : List PyData → PyData → Prop := fun ds d => ∃ ss, ds = [encSs ss] ∧ SsOk ss ∧ d = .list ((grains ss).map encG)
theorem df_line (F : At K mg "_law_line" s_law_line []) : Df P w K mg base 1 "_law_line" [] (spD K pre_line) := by
  refine df_mk F c_law_line (fun ds d h => ?_) fun f cdv A outer s H E vs R ds d hr dv h => ?_
  · obtain ⟨rfl, _⟩ := h; rfl
  · obtain ⟨rfl, rfl⟩ := h
    cases dv
    refine bd_set 0 c_law_line.nd (d1 := .list (line1.map tupI)) (pd_lst (pds_cons (pd_tup (pds_cons pd_int (pds_cons pd_int (pds_cons pd_int (pds_one (pd_neg pd_int)))))) (pds_cons (pd_tup (pds_cons pd_int (pds_cons pd_int (pds_cons pd_int (pds_one pd_int))))) (pds_cons (pd_tup (pds_cons pd_int (pds_cons pd_int (pds_cons pd_int (pds_one (pd_neg pd_int)))))) (pds_cons (pd_tup (pds_cons pd_int (pds_cons pd_int (pds_cons pd_int (pds_one pd_int))))) (pds_cons (pd_tup (pds_cons pd_int (pds_cons pd_int (pds_cons pd_int (pds_one (pd_neg pd_int)))))) (pds_cons (pd_tup (pds_cons pd_int (pds_cons pd_int (pds_cons pd_int (pds_one (pd_neg pd_int)))))) (pds_cons (pd_tup (pds_cons pd_int (pds_cons pd_int (pds_cons pd_int (pds_one pd_int))))) (pds_one (pd_tup (pds_cons pd_int (pds_cons pd_int (pds_cons pd_int (pds_one (pd_neg pd_int))))))))))))))) fun v1 R1 s1 dv1 => ?_
    refine bd_set 0 c_law_line.nd (d1 := .list ((line1 ++ line2).map tupI)) (PD.eq (pd_cat (es := line1.map tupI) (fs := line2.map tupI) (pd_var 0 rfl dv1) (pd_lst (pds_cons (pd_tup (pds_cons pd_int (pds_cons pd_int (pds_cons pd_int (pds_one (pd_neg pd_int)))))) (pds_cons (pd_tup (pds_cons pd_int (pds_cons pd_int (pds_cons pd_int (pds_one (pd_neg pd_int)))))) (pds_cons (pd_tup (pds_cons pd_int (pds_cons pd_int (pds_cons pd_int (pds_one (pd_neg pd_int)))))) (pds_cons (pd_tup (pds_cons pd_int (pds_cons pd_int (pds_cons pd_int (pds_one pd_int))))) (pds_cons (pd_tup (pds_cons pd_int (pds_cons pd_int (pds_cons pd_int (pds_one pd_int))))) (pds_cons (pd_tup (pds_cons pd_int (pds_cons pd_int (pds_cons pd_int (pds_one (pd_neg pd_int)))))) (pds_one (pd_tup (pds_cons pd_int (pds_cons pd_int (pds_cons pd_int (pds_one pd_int))))))))))))) (by decide +kernel)) (by rw [List.map_append])) fun v2 R2 s2 dv2 => ?_
    exact bd_ret (PD.eq (pd_cat (es := (line1 ++ line2).map tupI) (fs := line3.map tupI) (pd_var 0 rfl dv2) (pd_lst (pds_cons (pd_tup (pds_cons pd_int (pds_cons pd_int (pds_cons pd_int (pds_one (pd_neg pd_int)))))) (pds_cons (pd_tup (pds_cons pd_int (pds_cons pd_int (pds_cons pd_int (pds_one (pd_neg pd_int)))))) (pds_cons (pd_tup (pds_cons pd_int (pds_cons pd_int (pds_cons pd_int (pds_one pd_int))))) (pds_cons (pd_tup (pds_cons pd_int (pds_cons pd_int (pds_cons pd_int (pds_one pd_int))))) (pds_cons (pd_tup (pds_cons pd_int (pds_cons pd_int (pds_cons pd_int (pds_one (pd_neg pd_int)))))) (pds_one (pd_tup (pds_cons pd_int (pds_cons pd_int (pds_cons pd_int (pds_one (pd_neg pd_int))))))))))))) (by decide +kernel)) (by rw [← List.map_append]; rfl))
theorem df_law_next (F : At K mg "_law_next" s_law_next ["_law_version_so"]) : Df P w K mg base 1 "_law_next" ["_law_version_so"] (spD K pre_next) := by
  refine df_mk F c_law_next (fun ds d h => ?_) fun f cdv A outer s H E vs R ds d hr dv h => ?_
  · obtain ⟨_, _, _, _, rfl, _⟩ := h; rfl
  · obtain ⟨x, y, z, u, rfl, rfl⟩ := h
    obtain ⟨v, rfl, a⟩ := DvAll.one' dv
    refine bd_four 1 2 3 4 rfl c_law_next.nd (pd_var 0 rfl a) (fun v1 v2 v3 v4 R1 s1 h1 h2 h3 h4 => ?_) (pg4 1 2 3 4 rfl c_law_next.nd)
    refine bd_ret (PD.eq (pd_if (ptd_lt (pd_var 4 rfl h4) pd_int) (fun _ => pd_tup (pds_cons (pd_var 1 rfl h1) (pds_cons (pd_var 2 rfl h2) (pds_cons (pd_var 3 rfl h3) (pds_one (pd_add (pd_var 4 rfl h4) pd_int)))))) fun _ => pd_tup (pds_cons (pd_var 1 rfl h1) (pds_cons (pd_var 2 rfl h2) (pds_cons (pd_add (pd_var 3 rfl h3) pd_int) (pds_one (pd_neg pd_int)))))) ?_)
    unfold nextV
    by_cases h : u < 0
    · rw [if_pos (decide_eq_true h), if_pos h]; rfl
    · rw [if_neg (by rw [decide_eq_false h]; exact Bool.false_ne_true), if_neg h]; rfl
theorem df_subsets (F : At K mg "_law_subsets" s_law_subsets ["_law_things_so"]) (B : Blt mg) : Df P w K mg base 1 "_law_subsets" ["_law_things_so"] (spD K pre_subsets) := by
  refine df_sw F c_law_subsets (fun ds d h => ?_) fun f cdv A outer s H E vs R ds d hr dv h => ?_
  · obtain ⟨_, rfl, _⟩ := h; rfl
  · obtain ⟨n, rfl, hn, rfl⟩ := h
    obtain ⟨v, rfl, a⟩ := DvAll.one' dv
    refine sw_setD (d := .list (([[]] : List Row).map tupI)) 1 c_law_subsets.nd (pd_lst (pds_one (pd_tup pds_nil))) fun v1 R1 s1 dv1 => ?_
    refine sw_forT (l := List.range n) (enc := fun i => .int ((i : Nat) : Int)) (fun i σ R => ∃ (u1 : V) (u2 u3 : Option V), σ = [some v, some u1, u2, u3] ∧ Dv K R u1 (.list ((subsF [[]] (((List.range n).take i).map fun i => ((i : Nat) : Int))).map tupI)))
      PassesOwn.never rfl (pid_seq (pd_var 0 rfl a) .l) (pg_name (i := 2) c_law_subsets.nd rfl (Or.inr rfl)) (fun R2 s2 => ⟨v1, none, none, rfl, Dv_mono s2 dv1⟩)
      (fun i σ R R' h s => ?_) (fun i k u j σ' R' P1 H1 kk hk hfree pv sP1 du sH kc => ?_) (fun j σ' R' pv sP => ?_)
    · obtain ⟨u1, u2, u3, e, d1⟩ := h
      exact ⟨u1, u2, u3, e, Dv_mono s d1⟩
    · obtain ⟨u1, u2, u3, rfl, d1⟩ := pv
      refine kc _ ?_
      have hi6 : i < n := by
        have := (List.getElem?_eq_some_iff.mp hk).1
        rw [List.length_range] at this
        exact this
      have hlen : (subsF [[]] (((List.range n).take i).map fun i => ((i : Nat) : Int))).length ≤ 64 := by
        rw [subsF_len, List.length_map, List.length_take, List.length_range]
        have : 2 ^ min i n ≤ 2 ^ 6 := Nat.pow_le_pow_right (by decide) (by omega)
        simpa using this
      have hrow := subsF_rows 0 (((List.range n).take i).map fun i => ((i : Nat) : Int)) [[]] (fun q hq => by rw [List.mem_singleton.mp hq]; exact Nat.le_refl _)
      have htl : (((List.range n).take i).map fun i => ((i : Nat) : Int)).length ≤ 6 := by rw [List.length_map, List.length_take, List.length_range]; omega
      have etk : ((List.range n).take (i + 1)).map (fun i => ((i : Nat) : Int)) = ((List.range n).take i).map (fun i => ((i : Nat) : Int)) ++ [((k : Nat) : Int)] := by rw [take_next hk, List.map_append]; rfl
      generalize hacc : subsF [[]] (((List.range n).take i).map fun i => ((i : Nat) : Int)) = acc at d1 hlen hrow
      have big : 200 ≤ sizeLine := by decide
      refine sw_setD (d := .list ((acc ++ acc.map fun o => o ++ [((k : Nat) : Int)]).map tupI)) 1 c_law_subsets.nd (PD.eq (pd_cat (fs := (acc.map fun o => o ++ [((k : Nat) : Int)]).map tupI) (pd_var 1 rfl d1) (PD.eq (pd_lcT (l := acc) (enc := tupI) (own := [("_law_own", 3)]) (f := fun o => some (tupI (o ++ [((k : Nat) : Int)]))) rfl c_law_subsets.nd (pid_seq (pd_var 1 rfl d1) .l) (blkOk_by (by show blkC n_law_subsets (defScope s_law_subsets) _ _ = true; decide +kernel)) (Nat.le_trans hlen (by decide)) (fun _ _ _ _ _ => pg_name (i := 3) c_law_subsets.nd rfl (Or.inl rfl))
        (fun o v R1 H1 kk hd s1 s2 dv q2 => q2 _ rfl (lcb_all fun _ _ _ _ _ => ?_))) ?_) ?_) (by rw [List.map_append])) fun v3 R3 s3 dv3 => sw_nil ⟨v3, some u, u3, rfl, by rw [etk, subsF_app, hacc]; exact dv3⟩
      · refine PD.eq (pd_catT (es := o.map .int) (fs := [.int ((k : Nat) : Int)]) (pd_var 3 rfl dv) (pd_tup (pds_one (pd_var 2 rfl (Dv_mono s1 du)))) ?_) (by unfold tupI; rw [List.map_append]; rfl)
        have := hrow o hd
        rw [List.length_map, List.length_singleton]
        exact Nat.le_trans (by omega) big
      · rw [filterMap_some (fun o : Row => tupI (o ++ [((k : Nat) : Int)])), List.map_map]
        rfl
      · rw [List.length_map, List.length_map, List.length_map]
        exact Nat.le_trans (by omega) big
    · obtain ⟨u1, u2, u3, rfl, d1⟩ := pv
      refine sw_retD (pd_var 1 rfl d1) ?_
      rw [List.take_of_length_le (Nat.le_refl _)]
      rfl
theorem df_by_flags (F : At K mg "_law_by_flags" s_law_by_flags ["_law_spans_so", "_law_wanted_so"]) (B : Blt mg) (F1 : Df P w K mg base 2 "_law_points" ["_law_spans_so"] (spD K pre_points)) (F2 : Df P w K mg base 2 "_law_numbers" ["_law_spans_so", "_law_version_so"] (spD K pre_numbers)) (F3 : Df P w K mg base 1 "_law_span_of" ["_law_flags_so", "_law_points_so"] (spD K pre_span_of)) :
    Df P w K mg base 3 "_law_by_flags" ["_law_spans_so", "_law_wanted_so"] (spD K pre_by_flags) := by
  refine df_mk F c_law_by_flags (fun ds d h => ?_) fun f cdv A outer s H E vs R ds d hr dv h => ?_
  · obtain ⟨_, _, _, _, rfl, _⟩ := h; rfl
  · obtain ⟨t, ss, r, rows, rfl, q, ok, qr, sh, rfl⟩ := h
    obtain ⟨v, u, rfl, a, b⟩ := DvAll.two' dv
    have ehu : (A.deeper (envOfC "_law_by_flags" (defScope s_law_by_flags) s.heap.objs.size f cdv)).units + 65 < cLine := by have := hr.un; omega
    have hcl : (cuts ss).length ≤ 500 := Nat.le_trans (cuts_len ss) (by have := ok.few; omega)
    refine bd_set 2 c_law_by_flags.nd (pd_call F1 hr (pds_one (pd_var 0 rfl a)) ⟨t, ss, rfl, q, ok, rfl⟩) fun v2 R1 s1 dv2 => ?_
    refine bd_ret (pd_call F3 (hr.mono (by decide)) (pds_cons (PD.eq (pd_lcT (l := cuts ss) (enc := tupI) (own := [("_law_own", 3)]) (f := fun p => some (.bool (decide (nums ss p ∈ rows)))) rfl c_law_by_flags.nd (pid_seq (pd_var 2 rfl dv2) .t) (blkOk_by (by show blkC n_law_by_flags (defScope s_law_by_flags) _ _ = true; decide +kernel)) (Nat.le_trans hcl (by decide)) (fun _ _ _ _ _ => pg_name (i := 3) c_law_by_flags.nd rfl (Or.inl rfl))
      (fun p v R2 H2 kk hd s2 s3 dv q2 => q2 _ rfl (lcb_all fun _ _ _ _ _ => PD.eq (pd_inS ehu (pd_call F2 hr (pds_cons (pd_var 0 rfl (Dv_mono (s1.trans s2) a)) (pds_one (pd_var 3 rfl dv))) ⟨t, ss, p, rfl, q, ok, rfl⟩) (pd_var 1 rfl (Dv_mono (s1.trans s2) b)) qr (fin_shaped (fin_tupI (Nat.le_trans (nums_len 0 ss p) (Nat.le_trans ok.num (by decide))))) sh) (by rw [any_rows])))) (d1 := .list ((flagged (fun p => decide (nums ss p ∈ rows)) (cuts ss)).map fun z => .bool z.1)) ?_) (pds_one (pd_var 2 rfl dv2))) ⟨_, _, rfl, .inr ?_, ?_, rfl⟩)
    · rw [filterMap_some (fun p : Ver => PyData.bool (decide (nums ss p ∈ rows)))]
      unfold flagged
      rw [List.map_map]
      rfl
    · unfold flagged
      rw [List.map_map]
      rfl
    · unfold flagged
      rw [List.length_map]
      exact hcl
theorem df_law_grains (F : At K mg "_law_grains" s_law_grains ["_law_spans_so"]) (B : Blt mg) (F1 : Df P w K mg base 2 "_law_points" ["_law_spans_so"] (spD K pre_points)) (F2 : Df P w K mg base 2 "_law_numbers" ["_law_spans_so", "_law_version_so"] (spD K pre_numbers)) :
    Df P w K mg base 3 "_law_grains" ["_law_spans_so"] (spD K pre_law_grains) := by
  refine df_sw F c_law_grains (fun ds d h => ?_) fun f cdv A outer s H E vs R ds d hr dv h => ?_
  · obtain ⟨_, rfl, _⟩ := h; rfl
  · obtain ⟨ss, rfl, ok, rfl⟩ := h
    obtain ⟨v, rfl, a⟩ := DvAll.one' dv
    have hcl : (cuts ss).length ≤ 63 := Nat.le_trans (cuts_len ss) (by have := ok.few; omega)
    refine sw_setF 1 c_law_grains.nd fl_nil fun l xs R1 s1 r1 dx h0 hR hP => ?_
    cases dx
    refine sw_forT (l := cuts ss) (enc := tupI) (fun i σ R => ∃ (acc : List Gr) (xs : List V) (u2 u3 : Option V), σ = [some v, some (V.ref l), u2, u3] ∧ Dv K R v (encSs ss) ∧ R l = some (.lst xs) ∧ DvAll K R xs (acc.reverse.map encG) ∧ acc = grainsLR ss ((cuts ss).take i) [] ∧ acc.length ≤ i ∧ i ≤ 63 ∧ ∀ g ∈ acc, GOk g)
      PassesOwn.never rfl (pid_seq (pd_call F1 hr (pds_one (pd_var 0 rfl a)) ⟨_, ss, rfl, .inr rfl, ok, rfl⟩) .t) (pg_name (i := 2) c_law_grains.nd rfl (Or.inl rfl)) (fun R2 s2 => ⟨[], [], none, none, rfl, Dv_mono (s1.trans s2) a, s2 _ _ r1, .nil, rfl, Nat.le_refl _, Nat.zero_le _, fun g hg => nomatch hg⟩)
      (fun i σ R R' h s => ?_) (fun i p u j σ' R' P1 H1 k hp hfree pv sP1 du sH kk => ?_) (fun j σ' R' pv sP => ?_)
    · obtain ⟨acc, xs, u2, u3, e, d0, d1, d2, d3⟩ := h
      exact ⟨acc, xs, u2, u3, e, Dv_mono s d0, s _ _ d1, DvAll_mono s d2, d3⟩
    · obtain ⟨acc, xs, u2, u3, rfl, d0, d1, d2, d3, d4, d5, d6⟩ := pv
      have hP1 : P1 l = none := hfree l (by rw [r1]; exact fun z => nomatch z) hP
      have hi63 : i < 63 := by
        have := (List.getElem?_eq_some_iff.mp hp).1
        omega
      have pok := cuts_ok ok p (List.mem_of_getElem? hp)
      have hnl : (nums ss p).length ≤ 1000 := Nat.le_trans (nums_len 0 ss p) (Nat.le_trans ok.num (by decide))
      have gok : GOk (p, none, nums ss p) := ⟨pok, fun v z => (nomatch z), hnl⟩
      refine kk _ ?_
      refine sw_setD 3 c_law_grains.nd (pd_call F2 hr (pds_cons (pd_var 0 rfl d0) (pds_one (pd_var 2 rfl du))) ⟨_, ss, p, rfl, .inr rfl, ok, rfl⟩) fun v4 R2 s2 du4 => ?_
      have d0' := Dv_mono s2 d0
      have d1' := s2 _ _ d1
      have d2' := DvAll_mono s2 d2
      have du' := Dv_mono s2 du
      have dfound : Dv K R2 (.ref l) (.list (acc.reverse.map encG)) := .lst d1' d2'
      have lxs : xs.length = acc.length := by rw [DvAll.len d2, List.length_map, List.length_reverse]
      have shf : SeqAt.shaped (.list (acc.reverse.map encG)) = true := fin_shaped (n := 3) (fin_l.mpr ⟨by rw [List.length_map, List.length_reverse]; omega, fun d hd => by
        obtain ⟨g, hg, rfl⟩ := List.mem_map.mp hd
        exact fin_encG (d6 g (List.mem_reverse.mp hg))⟩)
      have shn : SeqAt.shaped (tupI (nums ss p)) = true := fin_shaped (fin_tupI hnl)
      have hacc := grainsLR_take ss hp
      rw [← d3] at hacc
      have noLG : ∀ gs : List Gr, noLs (gs.map encG) = true := fun gs => noLs_all fun d hd => by
        obtain ⟨g, _, rfl⟩ := List.mem_map.mp hd
        exact noL_encG g
      cases hA : acc with
      | nil =>
        subst hA
        have ex : xs = [] := List.length_eq_zero_iff.mp lxs
        subst ex
        refine sw_ifD (M := fun m σ' R' => m = j ∧ ∃ (acc : List Gr) (xs : List V) (u2 u3 : Option V), σ' = [some v, some (V.ref l), u2, u3] ∧ Dv K R' v (encSs ss) ∧ R' l = some (.lst xs) ∧ DvAll K R' xs (acc.reverse.map encG) ∧ acc = grainsLR ss ((cuts ss).take (i + 1)) [] ∧ acc.length ≤ i + 1 ∧ i + 1 ≤ 63 ∧ ∀ g ∈ acc, GOk g) (b := true)
          (PTD.eq (ptd_or (y := true) (ptd_eq hr.units (pd_var 1 rfl dfound) (pd_lst pds_nil) shf rfl) fun z => by cases z) rfl) (fun _ R3 s3 => ?_) (fun z => by cases z) (fun m σ' R' _ h => sw_nil (by obtain ⟨_, h⟩ := h; exact h))
        refine sw_ifD (M := fun m σ' R' => m = j ∧ σ' = [some v, some (V.ref l), some u, some v4] ∧ Same R3 R') (b := false) (PTD.eq (ptd_ne hr.units (pd_var 1 rfl (Dv_mono s3 dfound)) (pd_lst pds_nil) shf rfl) rfl) (fun z => by cases z) (fun _ R4 s4 => sw_nil ⟨rfl, rfl, s4⟩) (fun m σ' R4 _ h => ?_)
        obtain ⟨em, rfl, s4⟩ := h
        subst em
        refine sw_app (i := 1) (W := fun m' d => m' = m ∧ d = encG (p, none, nums ss p)) rfl (s4 _ _ (s3 _ _ d1')) h0 hP1 (lt_line (by decide)) (ew_pd (pd_tup (pds_cons (pd_var 2 rfl (Dv_mono (s3.trans s4) du')) (pds_cons pd_non (pds_one (pd_var 3 rfl (Dv_mono (s3.trans s4) du4)))))) ⟨rfl, rfl⟩) fun vn R5 m' d s5 dvn ⟨em, ed⟩ r5 => ?_
        subst ed
        exact sw_nil ⟨em, [(p, none, nums ss p)], _, some u, some v4, rfl, (Dv_mono ((s3.trans s4).trans s5) d0').over r5 (noL_encSs ss), upd_same, .cons (dvn.over r5 (noL_encG _)) .nil, by rw [hacc]; rfl, by simp, by omega, fun g hg => by rw [List.mem_singleton.mp hg]; exact gok⟩
      | cons q t =>
        obtain ⟨l0, h0', m0⟩ := q
        subst hA
        have eR : ((l0, h0', m0) :: t : List Gr).reverse.map encG = t.reverse.map encG ++ [encG (l0, h0', m0)] := by rw [List.reverse_cons, List.map_append]; rfl
        have qok := d6 _ List.mem_cons_self
        have dlast : ∀ R3, Same R2 R3 → Dv K R3 (.ref l) (.list (t.reverse.map encG ++ [encG (l0, h0', m0)])) := fun R3 s3 => by rw [← eR]; exact Dv_mono s3 dfound
        have hne : PyData.eqv (.list (((l0, h0', m0) :: t : List Gr).reverse.map encG)) (.list []) = false := by
          rw [eqv_nilL, eR]
          cases t.reverse.map encG <;> rfl
        refine sw_ifD (M := fun m σ' R' => m = j ∧ ∃ (acc : List Gr) (xs : List V) (u2 u3 : Option V), σ' = [some v, some (V.ref l), u2, u3] ∧ Dv K R' v (encSs ss) ∧ R' l = some (.lst xs) ∧ DvAll K R' xs (acc.reverse.map encG) ∧ acc = grainsLR ss ((cuts ss).take (i + 1)) [] ∧ acc.length ≤ i + 1 ∧ i + 1 ≤ 63 ∧ ∀ g ∈ acc, GOk g) (b := !decide (m0 = nums ss p))
          (PTD.eq (ptd_or (ptd_eq hr.units (pd_var 1 rfl dfound) (pd_lst pds_nil) shf rfl) fun _ => pwd_or1 (ptd_ne hr.units (pd_ix (pd_ix (pd_var 1 rfl (dlast R2 (Same.refl _))) (pd_neg pd_int) .l (atI_last _ _)) pd_int .t rfl) (pd_var 3 rfl du4) (fin_shaped (fin_tupI qok.2.2)) shn)) (by rw [hne, eqv_tupI]; rfl)) (fun hb R3 s3 => ?_) (fun hb R3 s3 => ?_) (fun m σ' R' _ h => sw_nil (by obtain ⟨_, h⟩ := h; exact h))
        · have em0 : ¬ m0 = nums ss p := by
            intro z
            rw [decide_eq_true z] at hb
            cases hb
          have hx0 : 0 < xs.length := by rw [lxs]; exact Nat.succ_pos _
          refine sw_ifD (M := fun m σ' R' => m = j ∧ ∃ xs : List V, σ' = [some v, some (V.ref l), some u, some v4] ∧ Dv K R' v (encSs ss) ∧ Dv K R' u (tupI p) ∧ Dv K R' v4 (tupI (nums ss p)) ∧ R' l = some (.lst xs) ∧ DvAll K R' xs (((l0, some p, m0) :: t).reverse.map encG)) (b := true) (PTD.eq (ptd_ne hr.units (pd_var 1 rfl (Dv_mono s3 dfound)) (pd_lst pds_nil) shf rfl) (by rw [hne]; rfl)) (fun _ R4 s4 => ?_) (fun z => by cases z) (fun m σ' R4 _ h => ?_)
          · refine sw_put (i := 1) (k := -1) (j := xs.length - 1) (W := fun m d => m = j ∧ d = encG (l0, some p, m0)) rfl (s4 _ _ (s3 _ _ d1')) h0 hP1 (ixN_last hx0) (ew_pd (pd_tup (pds_cons (pd_ix (pd_ix (pd_var 1 rfl (dlast R4 (s3.trans s4))) (pd_neg pd_int) .l (atI_last _ _)) pd_int .t rfl) (pds_cons (pd_var 2 rfl (Dv_mono (s3.trans s4) du')) (pds_one (pd_ix (pd_ix (pd_var 1 rfl (dlast R4 (s3.trans s4))) (pd_neg pd_int) .l (atI_last _ _)) pd_int .t rfl))))) ⟨rfl, rfl⟩) (fun _ _ => pd_neg pd_int) fun vn R5 m d s5 dvn ⟨em, ed⟩ r5 => ?_
            subst ed
            have s35 := (s3.trans s4).trans s5
            have d2'' := (DvAll_mono s35 d2').over (o := .lst (xs.set (xs.length - 1) vn)) r5 (noLG _)
            rw [eR] at d2''
            have d3'' := DvAll.set (dvn.over (o := .lst (xs.set (xs.length - 1) vn)) r5 (noL_encG _)) (xs.length - 1) d2''
            have el : xs.length - 1 = (t.reverse.map encG).length := by rw [lxs, List.length_map, List.length_reverse]; rfl
            refine sw_nil ⟨em, _, rfl, (Dv_mono s35 d0').over r5 (noL_encSs ss), (Dv_mono s35 du').over r5 (noL_tupI _), (Dv_mono s35 du4).over r5 (noL_tupI _), upd_same, ?_⟩
            have e3 : (((l0, some p, m0) :: t : List Gr).reverse.map encG) = (t.reverse.map encG ++ [encG (l0, h0', m0)]).set (xs.length - 1) (encG (l0, some p, m0)) := by
              rw [el, set_last, List.reverse_cons, List.map_append]
              rfl
            rw [e3]
            exact d3''
          · obtain ⟨em, ys, rfl, f0, f1, f2, f3, f4⟩ := h
            subst em
            have lys : ys.length = t.length + 1 := by rw [DvAll.len f4, List.length_map, List.length_reverse]; rfl
            refine sw_app (i := 1) (W := fun m' d => m' = m ∧ d = encG (p, none, nums ss p)) rfl f3 h0 hP1 (lt_line (by rw [lys]; exact Nat.lt_of_le_of_lt d4 (Nat.lt_trans hi63 (by decide)))) (ew_pd (pd_tup (pds_cons (pd_var 2 rfl f1) (pds_cons pd_non (pds_one (pd_var 3 rfl f2))))) ⟨rfl, rfl⟩) fun vn R5 m' d s5 dvn ⟨em, ed⟩ r5 => ?_
            subst ed
            have f4' := (DvAll_mono s5 f4).over (o := .lst (ys ++ [vn])) r5 (noLG _)
            refine sw_nil ⟨em, (p, none, nums ss p) :: (l0, some p, m0) :: t, _, some u, some v4, rfl, (Dv_mono s5 f0).over r5 (noL_encSs ss), upd_same, ?_, by rw [hacc]; exact (stepL_diff em0).symm, Nat.succ_le_succ d4, by omega, fun g hg => ?_⟩
            · rw [List.reverse_cons, List.map_append]
              exact f4'.app (.cons (dvn.over r5 (noL_encG _)) .nil)
            · rcases List.mem_cons.mp hg with rfl | hg
              · exact gok
              · rcases List.mem_cons.mp hg with rfl | hg
                · exact ⟨qok.1, fun v z => by cases z; exact pok, qok.2.2⟩
                · exact d6 g (List.mem_cons_of_mem _ hg)
        · have em0 : m0 = nums ss p := by
            by_cases z : m0 = nums ss p
            · exact z
            · rw [decide_eq_false z] at hb
              cases hb
          exact sw_nil ⟨rfl, (l0, h0', m0) :: t, xs, some u, some v4, rfl, Dv_mono s3 d0', s3 _ _ d1', DvAll_mono s3 d2', by rw [hacc]; exact (stepL_same em0).symm, Nat.le_succ_of_le d4, by omega, d6⟩
    · obtain ⟨acc, xs, u2, u3, rfl, d0, d1, d2, d3, d4, d5, d6⟩ := pv
      rw [List.take_length] at d3
      subst d3
      refine sw_retD (pd_var 1 rfl (.lst d1 d2)) ?_
      rw [grains_eq]
      rfl
end
end NF

set_option Elab.async false
set_option linter.all false
set_option maxRecDepth 100000
set_option maxHeartbeats 2000000
namespace NF
open PySem PySem.Spec PyProof.Rows L2
/-- an int with p, nothing drawn -/
abbrev EI (X : Cx) (t : Option Addr) (n : Nat) (e : Expr) (σ : L2.St) (R : Hp) (p : Int → Prop) : Prop := EW X t n e σ R fun m d => m = n ∧ ∃ i, d = .int i ∧ p i
section
variable {X : Cx} {t : Option Addr} {b0 : Addr} {n : Nat} {e a b : Expr} {es : List Expr} {σ : L2.St} {R R0 P R1 : Hp} {rest : List Stmt} {N : Nat → L2.St → Hp → Prop} {T : Nat → PyData → Prop} {p q r : Int → Prop} {W W1 : Nat → PyData → Prop} {Ws : Nat → List PyData → Prop} {pos pp : Pos}
theorem EW.up (h : EW X t n e σ R W) (i : ∀ m d, W m d → ∃ m', m ≤ m' ∧ W1 m' d) : EW X t n e σ R W1 := ⟨fun pins sh H Q I bx sb k => h.run pins sh H Q I bx sb fun v H' R' m d bx' g dv w => by
  obtain ⟨m', le, w1⟩ := i m d w
  exact k v H' R' m' d (bx'.mono le) g dv w1⟩
theorem SW.up {body : List Stmt} {m : Nat} (h : SW X t m body σ R0 P R N T) (le : n ≤ m) : SW X t n body σ R0 P R N T := ⟨fun pins s H0 H D I bx => h.run pins s H0 H D I (bx.mono le)⟩
theorem ei_pd {i : Int} (h : PD X e σ R (.int i)) (hp : p i) : EI X t n e σ R p := ew_pd h ⟨rfl, i, rfl, hp⟩
/-- box[k] -/
theorem ew_tin {j : Nat} {x : Str} {px : Pos} {k : Int} {kj : Nat} {pk : Pos} (hσ : σ[j]? = some (some (.ref b0))) (hk : ∀ a b c : Int, 0 ≤ a → 0 ≤ b → 0 ≤ c → c ≤ (n : Int) → ∃ z, atI [V.int a, .int b, .int c] k = some (.int z) ∧ p z)
    (hN : X.N[j]? = some x := by rfl) (hv : Vis X.env.scope x := by first | exact Or.inl rfl | exact Or.inr (Or.inl rfl) | exact Or.inr (Or.inr rfl)) (hdb : (x == ("__debug__" : Str)) = false := by decide) (hcd : (x == ("__classdict__" : Str)) = false := by decide)
    (hs : PlainIx (.Constant (.int k) kj pk) := by intro _ _; rfl) : EI X (some b0) n (.Subscript (.Name x px) (.Constant (.int k) kj pk) pos) σ R p :=
  .of (pe_ix ix_seq (pe_var hN hv hdb hcd) pe_int hs) fun H Q bx sb q => by
    obtain ⟨a, b, c, h1, h2, h3, h4, h5⟩ := bx
    obtain ⟨z, e1, e2⟩ := hk a b c h2 h3 h4 h5
    exact ⟨.ref b0, hσ, .inl ⟨b0, _, k, .int z, rfl, rfl, SqL.of h1, e1, q (.int z) H R n (.int z) ⟨a, b, c, h1, h2, h3, h4, h5⟩ (Grow.refl sb) (.int z) ⟨rfl, z, rfl, e2⟩⟩⟩
theorem ei_op0 {op : Operator} {g : Int → Int → Int} (ho : OpR X (binaryOp op) (rI0 fun i j => .int (g i j))) (ha : EI X t n a σ R p) (hb : EI X t n b σ R q) (h : ∀ i j, p i → q j → r (g i j)) : EI X t n (.BinOp a op b pos) σ R r :=
  ew_two (Wb := fun m _ k d => k = m ∧ ∃ i, d = .int i ∧ q i) (fun _ _ p q => pe_op ho p q) ha (fun m d w => by rw [w.1]; exact hb) fun m d1 j d2 w1 w2 => by
    obtain ⟨e1, i, rfl, hi⟩ := w1
    obtain ⟨e2, k, rfl, hk⟩ := w2
    exact ⟨.int (g i k), ⟨e2.trans e1, _, rfl, h i k hi hk⟩, fun x y R1 H1 Q _ s1 h1 h2 kk => by
      cases h1
      cases h2
      exact ⟨i, k, rfl, rfl, kk _ H1 R1 (Grow.refl s1) (.int _)⟩⟩
theorem ei_opC {op : Operator} {C : Int → Int → Prop} {g : Int → Int → Int} (ho : OpR X (binaryOp op) (rI C fun i j => .int (g i j))) (ha : EI X t n a σ R p) (hb : EI X t n b σ R q) (hc : ∀ i j, p i → q j → C i j) (h : ∀ i j, p i → q j → r (g i j)) : EI X t n (.BinOp a op b pos) σ R r :=
  ew_two (Wb := fun m _ k d => k = m ∧ ∃ i, d = .int i ∧ q i) (fun _ _ p q => pe_op ho p q) ha (fun m d w => by rw [w.1]; exact hb) fun m d1 j d2 w1 w2 => by
    obtain ⟨e1, i, rfl, hi⟩ := w1
    obtain ⟨e2, k, rfl, hk⟩ := w2
    exact ⟨.int (g i k), ⟨e2.trans e1, _, rfl, h i k hi hk⟩, fun x y R1 H1 Q _ s1 h1 h2 kk => by
      cases h1
      cases h2
      exact ⟨i, k, rfl, rfl, hc i k hi hk, kk _ H1 R1 (Grow.refl s1) (.int _)⟩⟩
theorem ei_add (ha : EI X t n a σ R p) (hb : EI X t n b σ R q) (h : ∀ i j, p i → q j → r (i + j)) : EI X t n (.BinOp a .Add b pos) σ R r := ei_op0 (g := fun i j => i + j) op_add ha hb h
theorem ei_mul (ha : EI X t n a σ R p) (hb : EI X t n b σ R q) (hc : ∀ i j, p i → q j → CMul i j) (h : ∀ i j, p i → q j → r (i * j)) : EI X t n (.BinOp a .Mult b pos) σ R r := ei_opC (g := fun i j => i * j) op_mul ha hb hc h
theorem ei_mod (ha : EI X t n a σ R p) (hb : EI X t n b σ R q) (hc : ∀ i j, p i → q j → j ≠ 0) (h : ∀ i j, p i → q j → r (i.fmod j)) : EI X t n (.BinOp a .Mod b pos) σ R r := ei_opC (g := fun i j => i.fmod j) op_modN ha hb hc h
theorem ei_div (ha : EI X t n a σ R p) (hb : EI X t n b σ R q) (hc : ∀ i j, p i → q j → CDivN i j) (h : ∀ i j, p i → q j → r (i.fdiv j)) : EI X t n (.BinOp a .FloorDiv b pos) σ R r := ei_opC (g := fun i j => i.fdiv j) op_fdivN ha hb hc h
theorem ei_int (B : Blt X.mg) (ha : EI X t n e σ R p) (hg : Gl X "int" := by rfl) (he : starEach [e] X.env = (false, eval e X.env) :: starEach [] X.env := by rfl) : EI X t n (.Call (.Name "int" pp) [e] [] pos) σ R p :=
  ew_bt call_int1 B.int (by decide +kernel) (ews_one (Ws := fun m ds => m = n ∧ ∃ i, ds = [.int i] ∧ p i) ha (fun m d ⟨e1, i, e2, h⟩ => ⟨e1, i, by rw [e2], h⟩) he) (fun m ds ⟨e1, i, e2, h⟩ => ⟨.int i, ⟨e1, i, rfl, h⟩, fun vs R1 H1 Q _ s1 dvs k => by
    subst e2
    obtain ⟨v, rfl, dv⟩ := DvAll.one' dvs
    cases dv
    exact .inl ⟨i, rfl, k _ H1 R1 (Grow.refl s1) (.int _)⟩⟩) hg (by decide) (by decide) he
/-- box[k] = e -/
theorem sw_tin {j m' : Nat} {x : Str} {px ps : Pos} {k : Int} {kj jx : Nat} {pk : Pos} (hσ : σ[j]? = some (some (.ref b0))) (hj : ixN 3 k = some jx) (he : EI X (some b0) n e σ R p)
    (hb : ∀ (H : Hp) (a b c z : Int), 0 ≤ a → 0 ≤ b → 0 ≤ c → c ≤ (n : Int) → p z → H b0 = some (.lst ([V.int a, .int b, .int c].set jx (.int z))) → Box m' H b0) (q : ∀ R1, Same R R1 → SW X (some b0) m' rest σ R0 P R1 N T)
    (hN : X.N[j]? = some x := by rfl) (hv : Vis X.env.scope x := by first | exact Or.inl rfl | exact Or.inr (Or.inl rfl) | exact Or.inr (Or.inr rfl)) (hdb : (x == ("__debug__" : Str)) = false := by decide) (hcd : (x == ("__classdict__" : Str)) = false := by decide)
    (ha : ∀ v, assign (.Subscript (.Name x px) (.Constant (.int k) kj pk) ps) X.env v = (do
      let ov ← holding [v] (eval (.Name x px) X.env)
      let iv ← holding [v, ov] (eval (.Constant (.int k) kj pk) X.env)
      standAt ps
      holding [v, ov, iv] (setItem ov iv v)
      release [v, ov, iv] []) := by intro _; rfl)
    (hs : swapsWithSole [.Subscript (.Name x px) (.Constant (.int k) kj pk) ps] e pos.line X.env = pure false := by rfl) (hw : swappedStores [.Subscript (.Name x px) (.Constant (.int k) kj pk) ps] e X.env = pure none := by rfl)
    (h1 : (assignEach [.Subscript (.Name x px) (.Constant (.int k) kj pk) ps] X.env).map (·.2) = [assign (.Subscript (.Name x px) (.Constant (.int k) kj pk) ps) X.env] := by rfl) :
    SW X (some b0) n (.Assign [.Subscript (.Name x px) (.Constant (.int k) kj pk) ps] e pos :: rest) σ R0 P R N T :=
  .of (pss_cons (ps_asg pe_ew (pg_sub (pe_var hN hv hdb hcd) pe_int set_list ha) hs hw h1) pss_sw) fun H0 H D bx g sp kn kt =>
    ⟨some b0, n, R, _, bx, g.inn, he, fun v H' R' m d b' g' dv w => ⟨.ref b0, hσ, by
      obtain ⟨e1, z, e2, hz⟩ := w
      subst e2
      cases dv
      obtain ⟨a, b, c, k1, k2, k3, k4, k5⟩ := b'
      rw [e1] at k5
      have hid' : hid (some b0) (upd H' b0 (.lst ([V.int a, .int b, .int c].set jx (.int z)))) = hid (some b0) H' := by
        funext u
        by_cases hu : u = b0
        · rw [hu, hid_self, hid_self]
        · rw [hid_some hu, hid_some hu, upd_ne hu]
      exact ⟨b0, _, k, jx, rfl, rfl, k1, hj, some b0, m', R0, P, R', H0, N, T, hb _ a b c z k2 k3 k4 k5 hz upd_same, by rw [hid']; exact g.trans g', sp.trans g'.sub, q R' g'.sub, kn, kt⟩⟩⟩
/-- found.append(pool.pop(e)) -/
theorem sw_popApp {i j lf lp : Nat} {x y : Str} {px py pa pb pc pd : Pos} {ys xs : List V} (hi : σ[i]? = some (some (.ref lf))) (hj : σ[j]? = some (some (.ref lp))) (hf : R lf = some (.lst ys)) (hp : R lp = some (.lst xs)) (hne : lf ≠ lp)
    (f0 : R0 lf = none) (fP : P lf = none) (p0 : R0 lp = none) (pP : P lp = none) (hz : ys.length < sizeLine) (hx : xs.length ≤ 100000) (he : EW X t n e σ R W) (hw : ∀ m d, W m d → ∃ z : Nat, d = .int (z : Int) ∧ z < xs.length)
    (q : ∀ R1 m (z : Nat) u, Same R R1 → W m (.int (z : Int)) → xs[z]? = some u → SW X t m rest σ R0 P (upd (upd R1 lp (.lst (xs.eraseIdx z))) lf (.lst (ys ++ [u]))) N T)
    (hN : X.N[i]? = some x := by rfl) (hv : Vis X.env.scope x := by first | exact Or.inl rfl | exact Or.inr (Or.inl rfl) | exact Or.inr (Or.inr rfl)) (hdb : (x == ("__debug__" : Str)) = false := by decide) (hcd : (x == ("__classdict__" : Str)) = false := by decide)
    (hNy : X.N[j]? = some y := by rfl) (hvy : Vis X.env.scope y := by first | exact Or.inl rfl | exact Or.inr (Or.inl rfl) | exact Or.inr (Or.inr rfl)) (hdby : (y == ("__debug__" : Str)) = false := by decide) (hcdy : (y == ("__classdict__" : Str)) = false := by decide)
    (hbase : attributeBase (.Name x px) "append" X.env (eval (.Name x px) X.env) = eval (.Name x px) X.env := by rfl) (hbase2 : attributeBase (.Name y py) "pop" X.env (eval (.Name y py) X.env) = eval (.Name y py) X.env := by rfl)
    (hfew : ((backTo pc (starEach [.Call (.Attribute (.Name y py) "pop" pb) [e] [] pd] X.env)).all (fun x => !x.1) && (backToKw pc (keywordEach [] X.env)).all (fun x => x.1.isSome) && decide ([(.Call (.Attribute (.Name y py) "pop" pb) [e] [] pd : Expr)].length + ([] : List Keyword).length + (if ([] : List Keyword).isEmpty then 0 else 1) < 30)) = true := by rfl)
    (hfew2 : ((backTo pd (starEach [e] X.env)).all (fun x => !x.1) && (backToKw pd (keywordEach [] X.env)).all (fun x => x.1.isSome) && decide ([e].length + ([] : List Keyword).length + (if ([] : List Keyword).isEmpty then 0 else 1) < 30)) = true := by rfl)
    (hline : (pa.endLine == pc.line) = true := by rfl) (hline2 : (pb.endLine == pd.line) = true := by rfl) (hs : starEach [.Call (.Attribute (.Name y py) "pop" pb) [e] [] pd] X.env = (false, eval (.Call (.Attribute (.Name y py) "pop" pb) [e] [] pd) X.env) :: starEach [] X.env := by rfl) (hs2 : starEach [e] X.env = (false, eval e X.env) :: starEach [] X.env := by rfl)
    (hplain : (backTo pc (starEach [] X.env)).any (·.1) = false := by rfl) (hplain2 : (backTo pd (starEach [] X.env)).any (·.1) = false := by rfl) (hsw : swapsWith (.Call (.Attribute (.Name x px) "append" pa) [.Call (.Attribute (.Name y py) "pop" pb) [e] [] pd] [] pc) none pos.line X.env = pure false := by rfl) :
    SW X t n (.Expr (.Call (.Attribute (.Name x px) "append" pa) [.Call (.Attribute (.Name y py) "pop" pb) [e] [] pd] [] pc) pos :: rest) σ R0 P R N T :=
  .of (pss_cons (ps_expr (pe_bm PySem.F.plainAttrs_list PySem.F.slot_list_append PySem.F.type_list_append mt_append (pe_var hN hv hdb hcd) (pa_cons (pe_bm PySem.F.plainAttrs_list PySem.F.slot_list_pop PySem.F.type_list_pop mt_popAt (pe_var hNy hvy hdby hcdy) (pa_cons pe_ew pa_nil hs2) hbase2 hfew2 hline2 hs2 hplain2) pa_nil hs) hbase hfew hline hs hplain) hsw) pss_sw) fun H0 H D bx g sp kn kt => by
    have rH := g.inn.trans (hid_le t H)
    refine ⟨.ref lf, hi, .inl ⟨rfl, ys, SqL.of (rH _ _ hf)⟩, .ref lp, hj, .inl ⟨rfl, xs, SqL.of (rH _ _ hp)⟩, t, n, R, W, bx, g.inn, he, fun v H' R' m d b' g' dv w => ?_⟩
    obtain ⟨z, rfl, hz2⟩ := hw m d w
    cases dv
    have r'H := g'.inn.trans (hid_le t H')
    have hp' := g'.sub _ _ hp
    have hf' := g'.sub _ _ hf
    obtain ⟨gp, nt⟩ := (g.trans g').put (o' := .lst (xs.eraseIdx z)) p0 hp'
    have hfu : upd R' lp (.lst (xs.eraseIdx z)) lf = some (.lst ys) := by rw [upd_ne hne]; exact hf'
    obtain ⟨gq, nt2⟩ := gp.put (o' := .lst (ys ++ [xs[z]])) f0 hfu
    refine ⟨lp, xs, (z : Int), z, xs[z], rfl, rfl, r'H _ _ hp', by omega, by omega, ?_, List.getElem?_eq_getElem hz2, lf, ys, xs[z], rfl, rfl, ?_, hz, t, m, R0, P, _, H0, N, T, (b'.put nt).put nt2, gq, same_put (same_put (sp.trans g'.sub) pP) fP, q R' m z _ g'.sub w (List.getElem?_eq_getElem hz2), kn, kt⟩
    · have := seqIndex_of (k := (z : Int)) (n := xs.length) (Int.natCast_nonneg z) (by omega)
      simpa using this
    · show upd H' lp _ lf = _
      rw [upd_ne hne]
      exact r'H _ _ hf'
end
end NF

set_option Elab.async false
set_option linter.all false
set_option maxRecDepth 100000
set_option maxHeartbeats 2000000
namespace NF
open PySem PySem.Spec PyProof.Rows L2
def pre_take : Nat → List PyData → Nat → PyData → Prop := fun n ds m d => ∃ b : Int, ds = [.int b] ∧ 0 < b ∧ b ≤ 1000 ∧ m = n + 1 ∧ ∃ i, d = .int i ∧ 0 ≤ i ∧ i < b
theorem tin0 (p : Int → Prop) {n : Nat} (h : ∀ a, 0 ≤ a → p a) : ∀ a b c : Int, 0 ≤ a → 0 ≤ b → 0 ≤ c → c ≤ (n : Int) → ∃ z, atI [V.int a, .int b, .int c] 0 = some (.int z) ∧ p z := fun a b c h1 _ _ _ => ⟨a, rfl, h a h1⟩
theorem tin1 (p : Int → Prop) {n : Nat} (h : ∀ a, 0 ≤ a → p a) : ∀ a b c : Int, 0 ≤ a → 0 ≤ b → 0 ≤ c → c ≤ (n : Int) → ∃ z, atI [V.int a, .int b, .int c] 1 = some (.int z) ∧ p z := fun a b c _ h1 _ _ => ⟨b, rfl, h b h1⟩
theorem tin2 (p : Int → Prop) {n : Nat} (h : ∀ a, 0 ≤ a → a ≤ (n : Int) → p a) : ∀ a b c : Int, 0 ≤ a → 0 ≤ b → 0 ≤ c → c ≤ (n : Int) → ∃ z, atI [V.int a, .int b, .int c] 2 = some (.int z) ∧ p z := fun a b c _ _ h1 h2 => ⟨c, rfl, h c h1 h2⟩
theorem cmul_r {i j : Int} (h1 : 0 ≤ j) (h2 : j < 2 ^ 63) : CMul i j := .inr ⟨by omega, by omega⟩
theorem cmul_l {i j : Int} (h1 : 0 ≤ i) (h2 : i < 2 ^ 63) : CMul i j := .inl ⟨by omega, by omega⟩
section
variable {P : Program} {w : World} {K : PySem.W.Frag} {mg : Str → Option Value} {base : Heap}
theorem df_take (F : At K mg "_law_take" s_law_take ["_law_tin", "_law_below_so"]) (B : Blt mg) : Df P w K mg base 1 "_law_take" ["_law_tin", "_law_below_so"] (spW K pre_take 100000) := by
  refine df_box F c_law_take (fun n ds m d h => ?_) fun f cdv A outer s H E t vs R n ds m0 d0 hr dv hn h => ?_
  · obtain ⟨b, rfl, _⟩ := h; rfl
  · obtain ⟨b, rfl, hb0, hb1, _⟩ := h
    obtain ⟨v, rfl, a⟩ := DvAll.one' dv
    cases a
    have pb : ∀ {X : Cx} {e : Expr} {σ : L2.St} {R : Hp} {t : Option Addr} {n : Nat}, PD X e σ R (.int b) → EI X t n e σ R (fun i => i = b) := fun h => ei_pd h rfl
    refine sw_if (Wc := fun m _ => m = n) (M := fun m σ' R' => m = n ∧ σ' = [some (V.ref t), some (V.int b), none, none, none, none] ∧ Same R R')
      (ewt_gt (ew_tin (j := 0) rfl (tin0 (fun _ => True) fun _ _ => trivial)) (fun _ _ => pd_int) fun m d ⟨e1, i, e2, _⟩ => ⟨i, e2, e1⟩) (fun m R1 s1 em => ?_) (fun m R1 s1 em => sw_nil ⟨em, rfl, s1⟩) (fun m σ' R' _ h => ?_)
    · subst em
      refine sw_set 2 c_law_take.nd (ei_mod (r := fun i => 0 ≤ i ∧ i < b) (ei_int B (ew_tin (j := 0) rfl (tin0 (fun _ => True) fun _ _ => trivial))) (pb (pd_var 1 rfl (.int b))) (fun i j _ e => by rw [e]; omega) (fun i j _ e => by rw [e]; exact ⟨Int.fmod_nonneg_of_pos _ hb0, Int.fmod_lt_of_pos _ hb0⟩)) fun v2 R2 m2 d2 s2 dv2 ⟨em2, i, ed, hi⟩ => ?_
      subst em2
      subst ed
      refine sw_tin (j := 0) (jx := 0) (m' := m2) (p := fun i => 0 ≤ i) rfl rfl (ei_div (ew_tin (j := 0) (p := fun i => 0 ≤ i) rfl (tin0 _ fun _ h => h)) (pb (pd_var 1 rfl (.int b))) (fun i j _ e => by rw [e]; exact ⟨by omega, by omega⟩) (fun i j h e => by rw [e]; exact Int.fdiv_nonneg h (by omega))) (fun H a b c z h1 h2 h3 h4 h5 h6 => ⟨z, b, c, h6, h5, h2, h3, h4⟩) fun R3 s3 => ?_
      exact sw_ret (EW.up (W := fun m d => m = m2 ∧ d = .int i) (ew_pd (pd_var 2 rfl (Dv_mono s3 dv2)) ⟨rfl, rfl⟩) fun m d ⟨e1, e2⟩ => ⟨m2 + 1, by omega, b, rfl, hb0, hb1, rfl, i, e2, hi⟩)
    · obtain ⟨em, rfl, s1⟩ := h
      subst em
      have hm1 : ((m + 1 : Nat) : Int) ≤ 200000 := by omega
      refine sw_tin (j := 0) (jx := 2) (m' := m + 1) (p := fun i => 0 ≤ i ∧ i ≤ (m : Int) + 1) rfl rfl (ei_add (p := fun i => 0 ≤ i ∧ i ≤ (m : Int)) (q := fun i => i = 1) (ew_tin (j := 0) rfl (tin2 _ fun _ h h' => ⟨h, h'⟩)) (ei_pd pd_int rfl) (fun i j h e => by rw [e]; exact ⟨by omega, by omega⟩)) (fun H a b c z h1 h2 h3 h4 h5 h6 => ⟨a, b, z, h6, h1, h2, h5.1, by omega⟩) fun R3 s3 => ?_
      refine sw_set 3 c_law_take.nd (ei_mod (q := fun i => i = 2147483647) (r := fun i => 0 ≤ i ∧ i < 2147483647) (ei_int B (ei_mul (p := fun _ => True) (q := fun i => 0 ≤ i ∧ i < 2 ^ 63) (r := fun _ => True) (ei_add (p := fun _ => True) (q := fun _ => True) (ew_tin (j := 0) rfl (tin1 _ fun _ _ => trivial)) (ei_mul (p := fun i => i = 48271) (q := fun _ => True) (ei_pd pd_int rfl) (ew_tin (j := 0) rfl (tin2 _ fun _ _ _ => trivial)) (fun i j e _ => cmul_l (by omega) (by omega)) fun _ _ _ _ => trivial) fun _ _ _ _ => trivial)
        (ei_add (p := fun i => i = 39373) (q := fun i => 0 ≤ i ∧ i ≤ ((m + 1 : Nat) : Int)) (ei_pd pd_int rfl) (ew_tin (j := 0) rfl (tin2 _ fun _ h h' => ⟨h, h'⟩)) (fun i j e h => ⟨by omega, by omega⟩)) (fun i j _ h => cmul_r h.1 h.2) fun _ _ _ _ => trivial)) (ei_pd pd_int rfl) (fun i j _ e => by omega) (fun i j _ e => by rw [e]; exact ⟨Int.fmod_nonneg_of_pos _ (by decide), Int.fmod_lt_of_pos _ (by decide)⟩)) fun v3 R4 m3 d3 s4 dv3 ⟨em3, o, ed3, ho⟩ => ?_
      subst em3
      subst ed3
      refine sw_set 4 c_law_take.nd (ei_add (p := fun i => 0 ≤ i ∧ i < 40009) (q := fun i => i = 7) (r := fun i => 7 ≤ i ∧ i < 40016) (ei_mod (p := fun _ => True) (q := fun i => i = 40009) (ei_int B (ei_pd (pd_var 3 rfl dv3) trivial)) (ei_pd pd_int rfl) (fun i j _ e => by omega) (fun i j _ e => by rw [e]; exact ⟨Int.fmod_nonneg_of_pos _ (by decide), Int.fmod_lt_of_pos _ (by decide)⟩)) (ei_pd pd_int rfl) (fun i j h e => ⟨by omega, by omega⟩)) fun v4 R5 m4 d4 s5 dv4 ⟨em4, wd, ed4, hw⟩ => ?_
      subst em4
      subst ed4
      refine sw_set 5 c_law_take.nd (ei_mod (p := fun _ => True) (q := fun i => i = 2147483629) (r := fun i => 0 ≤ i ∧ i < 2147483629) (ei_int B (ei_mul (p := fun _ => True) (q := fun i => i = wd) (ei_add (p := fun _ => True) (q := fun _ => True) (ei_add (p := fun _ => True) (q := fun _ => True) (ei_pd (pd_var 3 rfl (Dv_mono s5 dv3)) trivial) (ew_tin (j := 0) rfl (tin2 _ fun _ _ _ => trivial)) fun _ _ _ _ => trivial)
        (ei_div (p := fun _ => True) (q := fun i => i = 1000003) (ew_tin (j := 0) rfl (tin1 _ fun _ _ => trivial)) (ei_pd pd_int rfl) (fun i j _ e => by rw [e]; exact ⟨by omega, by omega⟩) fun _ _ _ _ => trivial) fun _ _ _ _ => trivial) (ei_pd (pd_var 4 rfl dv4) rfl) (fun i j _ e => by rw [e]; exact cmul_r (by omega) (by omega)) fun _ _ _ _ => trivial)) (ei_pd pd_int rfl) (fun i j _ e => by omega) (fun i j _ e => by rw [e]; exact ⟨Int.fmod_nonneg_of_pos _ (by decide), Int.fmod_lt_of_pos _ (by decide)⟩)) fun v5 R6 m5 d5 s6 dv5 ⟨em5, tw, ed5, ht⟩ => ?_
      subst em5
      subst ed5
      refine sw_ret (EW.imp (ei_mod (p := fun _ => True) (r := fun i => 0 ≤ i ∧ i < b) (ei_int B (ei_div (p := fun _ => True) (q := fun i => i = 64) (ei_mod (p := fun _ => True) (q := fun i => i = 2147483587) (ei_int B (ei_add (p := fun _ => True) (q := fun _ => True) (ei_mul (p := fun i => 0 ≤ i ∧ i < 2 ^ 63) (q := fun _ => True) (ei_pd (pd_var 5 rfl dv5) ⟨ht.1, by omega⟩) (ei_pd pd_int trivial) (fun i j h _ => cmul_l h.1 h.2) fun _ _ _ _ => trivial) (ei_pd (pd_var 3 rfl (Dv_mono (s5.trans s6) dv3)) trivial) fun _ _ _ _ => trivial)) (ei_pd pd_int rfl) (fun i j _ e => by omega) fun _ _ _ _ => trivial)
        (ei_pd pd_int rfl) (fun i j _ e => by rw [e]; exact ⟨by omega, by omega⟩) fun _ _ _ _ => trivial)) (pb (pd_var 1 rfl (.int b))) (fun i j _ e => by rw [e]; omega) (fun i j _ e => by rw [e]; exact ⟨Int.fmod_nonneg_of_pos _ hb0, Int.fmod_lt_of_pos _ hb0⟩)) fun k d ⟨ek, i, ed, hi⟩ => ⟨b, rfl, hb0, hb1, ek, i, ed, hi⟩)
end
end NF

set_option Elab.async false
set_option linter.all false
set_option maxRecDepth 100000
set_option maxHeartbeats 2000000
namespace NF
open PySem PySem.Spec PyProof.Rows L2
theorem sw_parFF {X : Cx} {t : Option Addr} {n : Nat} {rest : List Stmt} {a b : Expr} {σ : L2.St} {R0 P R : Hp} {N : Nat → L2.St → Hp → Prop} {T : Nat → PyData → Prop} {ds es : List PyData} {pos : Pos}
    (i j : Nat) {x y : Str} {px py pt : Pos} {kt k2 : Nat} {pt2 : Pos} (hc : X.calm = true) (nd : X.N.Nodup) (hij : i ≠ j) (ha : FL X a σ R ds) (hb : FL X b σ R es)
    (q : ∀ l xs k ys R1, Same R R1 → R1 l = some (.lst xs) → DvAll X.K R1 xs ds → R1 k = some (.lst ys) → DvAll X.K R1 ys es → k ≠ l → R0 l = none → P l = none → R0 k = none → P k = none → SW X t n rest ((σ.set i (some (.ref l))).set j (some (.ref k))) R0 P R1 N T)
    (hw : swappedStores [.Tuple [.Name x px, .Name y py] kt pt] (.Tuple [a, b] k2 pt2) X.env = pure (some [x, y])) (hi : X.N[i]? = some x := by rfl) (hj : X.N[j]? = some y := by rfl)
    (hx : X.env.scope.names.lookup x = some .local := by rfl) (hy : X.env.scope.names.lookup y = some .local := by rfl)
    (hs : swapsWithSole [.Tuple [.Name x px, .Name y py] kt pt] (.Tuple [a, b] k2 pt2) pos.line X.env = pure false := by rfl) (he1 : starEach [a, b] X.env = (false, eval a X.env) :: starEach [b] X.env := by rfl) (he2 : starEach [b] X.env = (false, eval b X.env) :: starEach [] X.env := by rfl) :
    SW X t n (.Assign [.Tuple [.Name x px, .Name y py] kt pt] (.Tuple [a, b] k2 pt2) pos :: rest) σ R0 P R N T :=
  .of (pss_cons (ps_par hc nd hi hj hij hx hy (pa_cons pe_fl (pa_cons pe_fl pa_nil he2) he1) hw hs) pss_sw) fun H0 H D bx g sp kn kt => ⟨R, ds, g.inn.trans (hid_le t H), ha, fun l xs H' R' g' hl r dv => ⟨R', es, g'.inn, hb.mono g'.sub, fun k ys H2 R2 g2 hk r2 dw => by
    obtain ⟨g1, b1⟩ := (g'.trans g2).box g.inn bx
    have rl : R l = none := (g.inn.trans (hid_le t H)).free hl
    have rk : R k = none := (g.inn.trans (hid_le t H)).free (g'.ext.free hk)
    have nkl : k ≠ l := fun e => by
      have q := g'.inn _ _ r
      rw [← e, hk] at q
      cases q
    exact ⟨.ref l, .ref k, rfl, t, n, R0, P, R2, H0, N, T, b1, g.trans g1, sp.trans (g'.sub.trans g2.sub), q l xs k ys R2 (g'.sub.trans g2.sub) (g2.sub _ _ r) (DvAll_mono g2.sub dv) r2 dw nkl (g.sub.free rl) (sp.free rl) (g.sub.free rk) (sp.free rk), kn, kt⟩⟩⟩
theorem DvAll.erase {K : PySem.W.Frag} {H : Hp} : ∀ {vs : List V} {ds : List PyData} (i : Nat), DvAll K H vs ds → DvAll K H (vs.eraseIdx i) (ds.eraseIdx i)
  | _, _, _, .nil => .nil
  | _, _, 0, .cons _ t => t
  | _, _, i + 1, .cons r t => .cons r (DvAll.erase i t)
theorem perm_erase {α : Type} (l : List α) {i : Nat} (h : i < l.length) : (l[i] :: l.eraseIdx i).Perm l := by
  rw [List.eraseIdx_eq_take_drop_succ]
  have e : l = l.take i ++ l[i] :: l.drop (i + 1) := by
    rw [← List.drop_eq_getElem_cons h, List.take_append_drop]
  exact (List.perm_middle.symm).trans (List.Perm.of_eq e.symm)
/-- for x in range(e) -/
theorem sw_rng {X : Cx} {t : Option Addr} {n : Nat} {body rest : List Stmt} {e : Expr} {σ : L2.St} {R0 P R : Hp} {N : Nat → L2.St → Hp → Prop} {T : Nat → PyData → Prop} {We : Nat → PyData → Prop} {pos pc p px : Pos} {x : Str}
    (ix : Nat) (hp : PassesOwn (model X.prog X.w) X.A X.env X.xe) (hc : X.calm = true) (B : Blt X.mg) (nd : X.N.Nodup) (ha : EW X t n e σ R We) (w : ∀ m d, We m d → ∃ j : Nat, d = .int (j : Int) ∧ j ≤ 1000)
    (go : ∀ m (j : Nat) R1, We m (.int (j : Int)) → Same R R1 → ∃ Pv : Nat → Nat → L2.St → Hp → Prop, Pv 0 m σ R1 ∧ (∀ i k σ' R', i < j → Pv i k σ' R' → Same P R' → SW X t k body (σ'.set ix (some (.int (i : Int)))) R0 P R' (Pv (i + 1)) T) ∧ ∀ k σ' R', Pv j k σ' R' → Same P R' → SW X t k rest σ' R0 P R' N T)
    (hi : X.N[ix]? = some x := by rfl) (hx : Loc X.env.scope x := by first | exact Or.inl rfl | exact Or.inr rfl) (hf : X.fn x = true ∨ X.env.scope.names.lookup x = some .local := by first | exact .inl rfl | exact .inr rfl)
    (hg : Gl X "range" := by rfl) (he : starEach [e] X.env = [(false, eval e X.env)] := by rfl) (hs : ∀ v, foldedSetIterable (.Call (.Name "range" p) [e] [] pc) X.env v = pure v := by intro _; rfl) :
    SW X t n (.For (.Name x px) (.Call (.Name "range" p) [e] [] pc) body [] pos :: rest) σ R0 P R N T :=
  .of (pss_cons (ps_for hp hc (pi_range1 hg B.range (pa_cons pe_ew pa_nil he) he) (pg_name nd hi hx hf) pss_sw hs) pss_sw) fun H0 H D bx g sp kn kt => ⟨t, n, R, We, bx, g.inn, ha, fun v H1 R1 m d b1 g1 dv w1 => by
    obtain ⟨j, rfl, hj⟩ := w m d w1
    cases dv
    obtain ⟨Pv, h0, tu, dn⟩ := go m j R1 w1 g1.sub
    refine ⟨(j : Int), rfl, by omega, by omega, fun i q σ' H' => q = j - i ∧ i ≤ j ∧ ∃ R' k, BoxO t k H' ∧ Grow R0 H0 R' (hid t H') ∧ Same P R' ∧ Pv i k σ' R', ⟨j, by simp, Nat.zero_le _, R1, m, b1, g.trans g1, sp.trans g1.sub, h0⟩, ?_⟩
    rintro i q σ' H' ⟨rfl, hle, R', k, bk, gk, sk, pv⟩
    by_cases hlt : i < j
    · refine .inr ⟨show i < ((j : Int)).toNat by omega, fun σ2 H2 => ∃ R2 k, BoxO t k H2 ∧ Grow R0 H0 R2 (hid t H2) ∧ Same P R2 ∧ Pv (i + 1) k σ2 R2, fun σ2 H2 z => ⟨j - (i + 1), by omega, rfl, hlt, z⟩, fun y H2 yy => ?_⟩
      obtain ⟨rfl, yy⟩ := yy
      subst yy
      have e0 : (0 : Int) + ((i : Nat) : Int) = ((i : Nat) : Int) := Int.zero_add _
      rw [e0]
      exact ⟨t, k, R0, P, R', H0, Pv (i + 1), T, bk, gk, sk, tu i k σ' R' hlt pv sk, fun σ3 H3 R3 m3 b4 g4 s4 p4 => ⟨R3, m3, b4, g4, s4, p4⟩, kt⟩
    · have e : i = j := by omega
      subst e
      exact .inl ⟨by show ((i : Int)).toNat ≤ i; omega, t, k, R0, P, R', H0, N, T, bk, gk, sk, dn k σ' R' pv sk, kn, kt⟩⟩
theorem pd_min2 {X : Cx} {a b : Expr} {σ : L2.St} {R : Hp} {i j : Int} {p pos : Pos} (hc : X.calm = true) (B : Blt X.mg) (ha : PD X a σ R (.int i)) (hb : PD X b σ R (.int j)) (hg : Gl X "min" := by rfl) (he : starEach [a, b] X.env = (false, eval a X.env) :: starEach [b] X.env := by rfl) (he2 : starEach [b] X.env = (false, eval b X.env) :: starEach [] X.env := by rfl)
    (hpl : (backTo pos (starEach [b] X.env)).any (·.1) = false := by rfl) : PD X (.Call (.Name "min" p) [a, b] [] pos) σ R (.int (if j < i then j else i)) :=
  pd_bf (call_min2 hc) B.min (by decide +kernel) (pds_cons ha (pds_cons hb pds_nil he2) he) (fun vs R1 H1 Q _ s1 dvs k => by
    obtain ⟨v, w, rfl, dv, dw⟩ := DvAll.two' dvs
    cases dv
    cases dw
    exact ⟨i, j, rfl, k _ H1 R1 (Grow.refl s1) (.int _)⟩) hg (by decide) (by decide) he hpl
theorem tupI_inj {a b : List Int} (h : tupI a = tupI b) : a = b := by
  have e := PyData.tuple.inj h
  have inj : ∀ a b : List Int, a.map PyData.int = b.map PyData.int → a = b := by
    intro a
    induction a with
    | nil => intro b h; cases b with
      | nil => rfl
      | cons => cases h
    | cons x a ih => intro b h; cases b with
      | nil => cases h
      | cons y b =>
        rw [List.map_cons, List.map_cons] at h
        have h1 := List.cons.inj h
        rw [PyData.int.inj h1.1, ih b h1.2]
  exact inj a b e
theorem of_line : ∀ {out : List PyData} {vs : List Ver}, (∀ d ∈ out, d ∈ vs.map tupI) → ∃ ps : List Ver, out = ps.map tupI ∧ ∀ p ∈ ps, p ∈ vs
  | [], _, _ => ⟨[], rfl, fun _ h => nomatch h⟩
  | d :: out, vs, h => by
    obtain ⟨ps, e, hp⟩ := of_line (out := out) (vs := vs) fun x hx => h x (List.mem_cons_of_mem _ hx)
    obtain ⟨v, hv, rfl⟩ := List.mem_map.mp (h d List.mem_cons_self)
    exact ⟨v :: ps, by rw [e]; rfl, fun p hp' => by
      rcases List.mem_cons.mp hp' with rfl | hp'
      · exact hv
      · exact hp p hp'⟩
theorem of_bools : ∀ {es : List PyData} {pts : List Ver}, es.length = pts.length → (∀ e ∈ es, ∃ b, e = PyData.bool b) → ∃ l : List (Bool × Ver), es = l.map (fun z => PyData.bool z.1) ∧ pts.map tupI = l.map (fun z => tupI z.2) ∧ l.map (·.2) = pts
  | [], [], _, _ => ⟨[], rfl, rfl, rfl⟩
  | [], _ :: _, h, _ => nomatch h
  | _ :: _, [], h, _ => nomatch h
  | e :: es, p :: pts, h, hb => by
    obtain ⟨l, h1, h2, h3⟩ := of_bools (es := es) (pts := pts) (by simpa using h) fun x hx => hb x (List.mem_cons_of_mem _ hx)
    obtain ⟨b, rfl⟩ := hb e List.mem_cons_self
    exact ⟨(b, p) :: l, by rw [h1]; rfl, by rw [List.map_cons, h2]; rfl, by rw [List.map_cons, h3]⟩
/-- a span that the law draws -/
structure Drawn (s : Span) : Prop where
  can : Canon s
  on : ∀ v ∈ endsS s, v ∈ line
  few : s.length ≤ 6
theorem drawn_every : Drawn [(first, none)] := ⟨⟨by simp, fun p hp h e => by rw [List.mem_singleton.mp hp] at e; cases e⟩, fun v hv => by
  have : v = first := by simpa [endsS, endsP] using hv
  rw [this]; exact first_line, by decide⟩
theorem drawn_runs {l : List (Bool × Ver)} (ha : Asc (l.map (·.2))) (hl : ∀ p ∈ l.map (·.2), p ∈ line) (h6 : l.length ≤ 6) : Drawn (spanOf l) := by
  rw [spanOf_b]
  refine ⟨(b_canon l ha).1, fun v hv => ?_, Nat.le_trans (b_len l).1 h6⟩
  obtain ⟨p, hp, hv⟩ := List.mem_flatMap.mp hv
  obtain ⟨h1, h2⟩ := (b_lows l).1 p hp
  have hv' : v = p.1 ∨ v ∈ p.2.toList := by simpa [endsP] using hv
  rcases hv' with z | z
  · rw [z]; exact hl _ h1
  · exact hl _ (h2 v (by simpa using z))
section
variable {P : Program} {w : World} {K : PySem.W.Frag} {mg : Str → Option Value} {base : Heap}
def pre_of : Nat → List PyData → Nat → PyData → Prop := fun n ds m d => ∃ gs, ds = [.list gs] ∧ 0 < gs.length ∧ gs.length ≤ 1000 ∧ m = n + 1 ∧ d ∈ gs
def pre_pick : Nat → List PyData → Nat → PyData → Prop := fun n ds m d => ∃ (gs : List PyData) (c : Int), ds = [.list gs, .int c] ∧ 0 ≤ c ∧ c ≤ 6 ∧ gs.length ≤ 500 ∧ (∀ g ∈ gs, noL g = true) ∧ m = n + 6 ∧ ∃ out rest, d = .list out ∧ (out ++ rest).Perm gs ∧ out.length ≤ 6
def pre_dspan : Nat → List PyData → Nat → PyData → Prop := fun n ds m d => ds = [] ∧ m = n + 14 ∧ ∃ s, d = encS s ∧ Drawn s
theorem df_of (F : At K mg "_law_of" s_law_of ["_law_tin", "_law_goods_so"]) (B : Blt mg) (F1 : Df P w K mg base 1 "_law_take" ["_law_tin", "_law_below_so"] (spW K pre_take 100000)) : Df P w K mg base 2 "_law_of" ["_law_tin", "_law_goods_so"] (spW K pre_of 50000) := by
  refine df_box F c_law_of (fun n ds m d h => ?_) fun f cdv A outer s H E t vs R n ds m0 d0 hr dv hn h => ?_
  · obtain ⟨b, rfl, _⟩ := h; rfl
  · obtain ⟨gs, rfl, h0, h1, _⟩ := h
    obtain ⟨v, rfl, a⟩ := DvAll.one' dv
    refine sw_ret (ew_two (W1 := fun m d => m = n ∧ d = .list gs) (Wb := fun m d j e => j = n + 1 ∧ ∃ i, e = .int i ∧ 0 ≤ i ∧ i < (gs.length : Int)) (fun _ _ p q => pe_ix ix_seq p q (by intro _ _; rfl)) (ew_pd (pd_var 1 rfl a) ⟨rfl, rfl⟩) (fun m d ⟨e1, e2⟩ => ?_) fun m d1 j d2 w1 w2 => ?_)
    · subst e1
      exact ew_draw (i := 0) F1 hr rfl (ews_one (Ws := fun m' ds => m' = m ∧ ds = [.int (gs.length : Int)]) (ew_pd (W := fun m' d => m' = m ∧ d = .int (gs.length : Int)) (pd_len B (pd_var 1 rfl a) .l) ⟨rfl, rfl⟩) fun m' d ⟨e1, e2⟩ => ⟨e1, by rw [e2]⟩) fun m' ds ⟨e1, e2⟩ => by
        subst e2
        rw [e1]
        refine ⟨by omega, ⟨m + 1, .int 0, (gs.length : Int), rfl, by omega, by omega, rfl, 0, rfl, by omega, by omega⟩, fun j d h => ?_⟩
        obtain ⟨b, eb, _, _, ej, i, ed, hi⟩ := h
        cases eb
        exact ⟨ej, i, ed, hi⟩
    · obtain ⟨e1, rfl⟩ := w1
      obtain ⟨e2, i, rfl, hi0, hi1⟩ := w2
      obtain ⟨z, rfl⟩ : ∃ z : Nat, i = (z : Int) := ⟨i.toNat, by omega⟩
      have hz : z < gs.length := by omega
      have hat : atI gs (z : Int) = some gs[z] := by
        have : ixN gs.length (z : Int) = some z := by
          unfold ixN
          simp [hz]
        unfold L2.atI
        rw [this]
        exact List.getElem?_eq_getElem hz
      refine ⟨gs[z], ⟨gs, rfl, h0, h1, e2, List.getElem_mem hz⟩, fun x y R1 H1 Q _ s1 h1 h2 k => ?_⟩
      cases h2
      obtain ⟨p, xs, rfl, hs, hx⟩ := h1.lstE
      obtain ⟨v, ev, dv⟩ := DvAll.atI hx hat
      exact .inl ⟨p, xs, (z : Int), v, rfl, rfl, s1.seq (SqL.of hs), ev, k v H1 R1 (Grow.refl s1) dv⟩
theorem df_pick (F : At K mg "_law_pick" s_law_pick ["_law_tin", "_law_goods_so", "_law_count_so"]) (B : Blt mg) (F1 : Df P w K mg base 1 "_law_take" ["_law_tin", "_law_below_so"] (spW K pre_take 100000)) : Df P w K mg base 2 "_law_pick" ["_law_tin", "_law_goods_so", "_law_count_so"] (spW K pre_pick 50000) := by
  refine df_box F c_law_pick (fun n ds m d h => ?_) fun f cdv A outer s H E t vs R n ds m0 d0 hr dv hn h => ?_
  · obtain ⟨_, _, rfl, _⟩ := h; rfl
  · obtain ⟨gs, c, rfl, hc0, hc6, hgl, hnl, _⟩ := h
    obtain ⟨v, u, rfl, a, b⟩ := DvAll.two' dv
    cases b
    refine sw_parFF 3 4 rfl c_law_pick.nd (by decide) (fl_list B (pd_var 1 rfl a) .l) fl_nil (fun lp xs0 lf ys0 R1 s1 r1 dx r2 dy hne p0 pP f0 fP => ?_) rfl
    cases dy
    have lx0 : xs0.length = gs.length := DvAll.len dx
    generalize hk : (if (gs.length : Int) < c then (gs.length : Int) else c) = k
    have hk1 : 0 ≤ k ∧ k ≤ 6 ∧ k ≤ gs.length := by
      rw [← hk]
      split
      · omega
      · omega
    have npl : lp ≠ lf := fun e => hne e.symm
    obtain ⟨kn, ekn⟩ : ∃ z : Nat, k = (z : Int) := ⟨k.toNat, by omega⟩
    subst ekn
    refine sw_rng 5 PassesOwn.never rfl B c_law_pick.nd (We := fun m d => m = n ∧ d = .int (kn : Int)) (ew_pd (PD.eq (pd_min2 rfl B (pd_int1 B (pd_var 2 rfl (.int c))) (pd_len B (pd_var 3 rfl (.lst r1 dx)) .l)) (by rw [hk])) ⟨rfl, rfl⟩) (fun m d ⟨_, e2⟩ => ⟨kn, e2, by omega⟩) fun m j R2 ⟨e1, e2⟩ s2 => ?_
    have ej : j = kn := by
      have := PyData.int.inj e2
      omega
    subst ej
    subst e1
    refine ⟨fun i k σ R => k = m + i ∧ ∃ (u5 : Option V) (ys xs : List V) (out pool : List PyData), σ = [some (V.ref t), some v, some (V.int c), some (V.ref lp), some (V.ref lf), u5] ∧ R lf = some (.lst ys) ∧ R lp = some (.lst xs) ∧ DvAll K R ys out ∧ DvAll K R xs pool ∧ (out ++ pool).Perm gs ∧ out.length = i,
      ⟨rfl, none, [], xs0, [], gs, rfl, s2 _ _ r2, s2 _ _ r1, .nil, DvAll_mono s2 dx, .refl _, rfl⟩, fun i k σ' R' hi pv sP => ?_, fun k σ' R' pv sP => ?_⟩
    · obtain ⟨ek, u5, ys, xs, out, pool, rfl, q1, q2, q3, q4, q5, q6⟩ := pv
      subst ek
      have hpl : out.length + pool.length = gs.length := by rw [← List.length_append]; exact q5.length_eq
      have lxs : xs.length = pool.length := DvAll.len q4
      have lys : ys.length = i := by rw [DvAll.len q3, q6]
      refine sw_popApp (i := 4) (j := 3) (W := fun k d => k = m + i + 1 ∧ ∃ z : Nat, d = .int (z : Int) ∧ z < xs.length) rfl rfl q1 q2 hne f0 fP p0 pP (lt_line (by omega)) (by omega) ?_ (fun k d ⟨_, z, e1, e2⟩ => ⟨z, e1, e2⟩) fun R3 k z u s3 wz hu => ?_
      · exact ew_draw (i := 0) F1 hr rfl (ews_one (Ws := fun m' ds => m' = m + i ∧ ds = [.int (pool.length : Int)]) (ew_pd (W := fun m' d => m' = m + i ∧ d = .int (pool.length : Int)) (pd_len B (pd_var 3 rfl (.lst q2 q4)) .l) ⟨rfl, rfl⟩) fun m' d ⟨e1, e2⟩ => ⟨e1, by rw [e2]⟩) fun m' ds ⟨e1, e2⟩ => by
          subst e2
          rw [e1]
          refine ⟨by omega, ⟨m + i + 1, .int 0, (pool.length : Int), rfl, by omega, by omega, rfl, 0, rfl, by omega, by omega⟩, fun j d h => ?_⟩
          obtain ⟨b, eb, _, _, ej, z, ed, hz⟩ := h
          cases eb
          exact ⟨ej, z.toNat, by rw [ed]; congr 1; omega, by omega⟩
      · obtain ⟨ek, z', ez, hz⟩ := wz
        have ezz : z = z' := by
          have := PyData.int.inj ez
          omega
        subst ezz
        have hzp : z < pool.length := by omega
        obtain ⟨d, ed, du⟩ := DvAll.at (DvAll_mono s3 q4) hu
        have epd : pool[z] = d := by
          rw [List.getElem?_eq_getElem hzp] at ed
          exact Option.some.inj ed
        have allg : ∀ x ∈ out ++ pool, noL x = true := fun x hx => hnl x (q5.mem_iff.mp hx)
        have n1 : noLs out = true := noLs_all fun x hx => allg x (List.mem_append_left _ hx)
        have n2 : noLs (pool.eraseIdx z) = true := noLs_all fun x hx => allg x (List.mem_append_right _ (List.mem_of_mem_eraseIdx hx))
        have n3 : noL d = true := allg d (List.mem_append_right _ (epd ▸ List.getElem_mem hzp))
        have rp := s3 _ _ q2
        have rf : upd R3 lp (.lst (xs.eraseIdx z)) lf = some (.lst ys) := by rw [upd_ne hne]; exact s3 _ _ q1
        refine sw_nil ⟨by omega, _, ys ++ [u], xs.eraseIdx z, out ++ [d], pool.eraseIdx z, rfl, upd_same, by rw [upd_ne npl, upd_same], ?_, ?_, ?_, by rw [List.length_append, q6]; rfl⟩
        · exact (((DvAll_mono s3 q3).over rp n1).over rf n1).app (.cons ((du.over rp n3).over rf n3) .nil)
        · exact ((DvAll.erase z (DvAll_mono s3 q4)).over rp n2).over rf n2
        · have hper := perm_erase pool hzp
          rw [epd] at hper
          rw [List.append_assoc]
          exact ((List.Perm.append_left out hper)).trans q5
    · obtain ⟨ek, u5, ys, xs, out, pool, rfl, q1, q2, q3, q4, q5, q6⟩ := pv
      exact sw_ret (EW.up (W := fun m' d => m' = k ∧ d = .list out) (ew_pd (pd_var 4 rfl (.lst q1 q3)) ⟨rfl, rfl⟩) fun m' d ⟨e1, e2⟩ => ⟨m + 6, by omega, gs, c, rfl, hc0, hc6, hgl, hnl, rfl, out, pool, e2, q5, by omega⟩)
end
end NF

set_option Elab.async false
set_option linter.all false
set_option maxRecDepth 100000
set_option maxHeartbeats 2000000
namespace NF
open PySem PySem.Spec PyProof.Rows L2
theorem sortV_read {K : PySem.W.Frag} {vs : List Ver} (hne : ∀ v ∈ vs, v ≠ []) {us : List V} {R1 H1 : Hp} {Q : VK} (s1 : Same R1 H1) (dvs : DvAll K R1 us [.list (vs.map tupI)]) (k : ∀ v H' R', Grow R1 H1 R' H' → Dv K R' v (.list ((vsort vs).map tupI)) → Q v H') : rSortV K us H1 Q := by
  obtain ⟨v, rfl, dv⟩ := DvAll.one' dvs
  obtain ⟨a, xs, rfl, hs, hx⟩ := dv.lstE
  obtain ⟨bs, rfl, e, hb⟩ := hx.pvs
  refine ⟨a, bs, rfl, s1 _ _ hs, fun p hp => same_tup s1 (hb p hp), fun p hp => hne p.2 (by rw [← e]; exact List.mem_map.mpr ⟨p, hp, rfl⟩), fun q hq => ?_⟩
  have hsort : ∀ p ∈ psort bs, SqT K (upd R1 q (.lst ((psort bs).map fun p => V.ref p.1))) p.1 (p.2.map V.int) := fun p hp => same_tup (same_upd (s1.free hq)) (hb p ((psort_perm bs).mem_iff.mp hp))
  have d := DvAll.ofPvs hsort
  rw [psort_snd, e] at d
  exact k _ _ _ (Grow.add s1 hq) (.lst upd_same d)
theorem noL_line : ∀ g ∈ line.map tupI, noL g = true := fun g hg => by
  obtain ⟨v, _, rfl⟩ := List.mem_map.mp hg
  exact noL_tupI v
section
variable {P : Program} {w : World} {K : PySem.W.Frag} {mg : Str → Option Value} {base : Heap} {X : Cx} {t : Addr} {n : Nat} {σ : L2.St} {R : Hp}
/-- take(box, b), b written -/
theorem ew_take {lv i : Nat} {b : Int} {y : Str} {p py pos pc : Pos} {kc : Nat} (F1 : Df X.prog X.w X.K X.mg X.base 1 "_law_take" ["_law_tin", "_law_below_so"] (spW X.K pre_take 100000)) (hr : Room lv X.A) (hl : 1 ≤ lv) (hσ : σ[i]? = some (some (.ref t))) (hb0 : 0 < b) (hb1 : b ≤ 1000) (hn : n ≤ 90000)
    (hN : X.N[i]? = some y := by rfl) (hv : Vis X.env.scope y := by first | exact Or.inl rfl | exact Or.inr (Or.inl rfl) | exact Or.inr (Or.inr rfl))
    (hdy : (y == ("__debug__" : Str)) = false := by decide) (hcd : (y == ("__classdict__" : Str)) = false := by decide) (hg : Gl X "_law_take" := by rfl)
    (he : starEach [.Name y py, .Constant (.int b) kc pc] X.env = (false, eval (.Name y py) X.env) :: starEach [.Constant (.int b) kc pc] X.env := by rfl) (he2 : starEach [.Constant (.int b) kc pc] X.env = (false, eval (.Constant (.int b) kc pc) X.env) :: starEach [] X.env := by rfl)
    (hpl : (backTo pos (starEach [.Constant (.int b) kc pc] X.env)).any (·.1) = false := by rfl) : EW X (some t) n (.Call (.Name "_law_take" p) [.Name y py, .Constant (.int b) kc pc] [] pos) σ R (fun m d => m = n + 1 ∧ ∃ i, d = .int i ∧ 0 ≤ i ∧ i < b) :=
  ew_draw F1 (hr.mono hl) hσ (ews_one (Ws := fun m' ds => m' = n ∧ ds = [.int b]) (ew_pd (W := fun m' d => m' = n ∧ d = .int b) pd_int ⟨rfl, rfl⟩) (fun m' d ⟨e1, e2⟩ => ⟨e1, by rw [e2]⟩) he2) (fun m' ds ⟨e1, e2⟩ => by
    subst e2
    rw [e1]
    refine ⟨by omega, ⟨n + 1, .int 0, b, rfl, hb0, hb1, rfl, 0, rfl, by omega, hb0⟩, fun j d h => ?_⟩
    obtain ⟨b', eb, _, _, ej, i, ed, hi⟩ := h
    cases eb
    exact ⟨ej, i, ed, hi⟩) hN hv hdy hcd hg (by decide) he hpl
theorem df_drawn_span (F : At K mg "_law_drawn_span" s_law_drawn_span ["_law_tin"]) (B : Blt mg) (F1 : Df P w K mg base 1 "_law_take" ["_law_tin", "_law_below_so"] (spW K pre_take 100000)) (F2 : Df P w K mg base 2 "_law_pick" ["_law_tin", "_law_goods_so", "_law_count_so"] (spW K pre_pick 50000)) (F3 : Df P w K mg base 1 "_law_line" [] (spD K pre_line))
    (F4 : Df P w K mg base 1 "_law_span_of" ["_law_flags_so", "_law_points_so"] (spD K pre_span_of)) (F5 : Df P w K mg base 1 "_law_every" [] (spD K pre_every)) : Df P w K mg base 3 "_law_drawn_span" ["_law_tin"] (spW K pre_dspan 10000) := by
  refine df_box F c_law_drawn_span (fun n ds m d h => ?_) fun f cdv A outer s H E t vs R n ds m0 d0 hr dv hn h => ?_
  · obtain ⟨rfl, _⟩ := h; rfl
  · obtain ⟨rfl, _⟩ := h
    cases dv
    have hr1 : Room 1 _ := hr.mono (by decide)
    refine sw_set 1 c_law_drawn_span.nd (W := fun m d => m = n + 7 ∧ ∃ pts : List Ver, d = .list (pts.map tupI) ∧ Asc pts ∧ pts.length ≤ 6 ∧ ∀ p ∈ pts, p ∈ line)
      (ew_bf (cr_sortV hr.units) B.sorted (by decide +kernel) (ews_one (W := fun m d => m = n + 7 ∧ ∃ pts : List Ver, d = .list (pts.map tupI) ∧ pts.Nodup ∧ pts.length ≤ 6 ∧ ∀ p ∈ pts, p ∈ line) (Ws := fun m ds => m = n + 7 ∧ ∃ pts : List Ver, ds = [.list (pts.map tupI)] ∧ pts.Nodup ∧ pts.length ≤ 6 ∧ ∀ p ∈ pts, p ∈ line)
        (ew_draw (i := 0) (Ws := fun m ds => m = n + 1 ∧ ∃ c, ds = [.list (line.map tupI), .int c] ∧ 0 ≤ c ∧ c ≤ 6) F2 hr rfl (ews_cons (W := fun m d => m = n ∧ d = .list (line.map tupI)) (Ws2 := fun m d k ds => k = n + 1 ∧ ∃ c, ds = [.int c] ∧ 0 ≤ c ∧ c ≤ 6) (ew_pd (pd_call0 F3 hr1 ⟨rfl, rfl⟩) ⟨rfl, rfl⟩) (fun m d ⟨e1, e2⟩ => by
            subst e1
            exact ews_one (W := fun k d => k = m + 1 ∧ ∃ i, d = .int i ∧ 0 ≤ i ∧ i < 7) (ew_take (i := 0) F1 hr1 (by decide) rfl (by decide) (by decide) (by omega)) fun k d ⟨e1, i, e2, h1, h2⟩ => ⟨e1, i, by rw [e2], h1, by omega⟩) (fun m d k ds ⟨_, e2⟩ ⟨e3, c, e4, e5, e6⟩ => ⟨e3, c, by rw [e2, e4], e5, e6⟩)) (fun m ds ⟨e1, c, e2, e3, e4⟩ => ?_))
        (fun m d ⟨e1, pts, e2, h⟩ => ⟨e1, pts, by rw [e2], h⟩)) (fun m ds ⟨e1, pts, e2, hnd, hl, hon⟩ => ?_)) fun v1 R1 m1 d1 s1 dv1 ⟨em, pts, ed, hasc, hpl, hon⟩ => ?_
    · subst e1
      subst e2
      refine ⟨by omega, ⟨n + 1 + 6, .list [], line.map tupI, c, rfl, e3, e4, by rw [List.length_map, line_len]; decide, noL_line, rfl, [], line.map tupI, rfl, .refl _, by decide⟩, fun j d h => ?_⟩
      obtain ⟨gs, c', ec, _, _, _, _, ej, out, rest, ed, hper, hl⟩ := h
      have eg : gs = line.map tupI := by
        have := (List.cons.inj ec).1
        exact (PyData.list.inj this).symm
      subst eg
      obtain ⟨pts, rfl, hon⟩ := of_line (out := out) (vs := line) fun d hd => hper.mem_iff.mp (List.mem_append_left _ hd)
      refine ⟨by omega, pts, ed, ?_, by rw [List.length_map] at hl; exact hl, hon⟩
      have nd1 : (line.map tupI).Nodup := by
        rw [List.nodup_iff_pairwise_ne, List.pairwise_map]
        have := List.nodup_iff_pairwise_ne.mp line_nodup
        exact this.imp fun h e => h (tupI_inj e)
      have nd2 := (hper.nodup_iff.mpr nd1)
      have nd3 := (List.nodup_append.mp nd2).1
      rw [List.nodup_iff_pairwise_ne, List.pairwise_map] at nd3
      rw [List.nodup_iff_pairwise_ne]
      exact nd3.imp fun h e => h (by rw [e])
    · subst e2
      refine ⟨.list ((vsort pts).map tupI), ⟨e1, vsort pts, rfl, asc_of_nodup (vsort_pairwise pts) ((vsort_perm pts).nodup_iff.mpr hnd), by rw [(vsort_perm pts).length_eq]; exact hl, fun p hp => hon p ((vsort_perm pts).mem_iff.mp hp)⟩, fun us R1 H1 Q _ s1 dvs k => sortV_read (fun v hv => ?_) s1 dvs k⟩
      intro e
      have := (line_ok v (hon v hv)).1
      rw [e] at this
      cases this
    · subst em
      subst ed
      refine sw_ret (ew_if (Wc := fun m _ => m = n + 8) (ewt_gt (ew_take (i := 0) F1 hr1 (by decide) rfl (by decide) (by decide) (by omega)) (fun _ _ => pd_int) fun m d ⟨e1, i, e2, _⟩ => ⟨i, e2, by omega⟩) (fun m em => ?_) (fun m em => ?_))
      · subst em
        refine EW.up (W := fun m d => m ≤ n + 14 ∧ ∃ s, d = encS s ∧ Drawn s) (ew_call (Ws := fun m ds => m ≤ n + 14 ∧ ∃ l : List (Bool × Ver), ds = [.list (l.map fun z => .bool z.1), .list (l.map fun z => tupI z.2)] ∧ l.map (·.2) = pts) F4 hr1
          (ews_cons (W := fun m d => m ≤ n + 14 ∧ ∃ es : List PyData, d = .list es ∧ es.length = pts.length ∧ ∀ e ∈ es, ∃ b, e = PyData.bool b) (Ws2 := fun m d k ds => k = m ∧ ds = [.list (pts.map tupI)]) (ew_lc (own := [("_law_own", 2)]) (g := gName 2) (W := fun m ds => m = n + 8 ∧ ds = pts.map tupI) (c := 1) (lim := n + 14) (Pe := fun e => ∃ b, e = PyData.bool b) rfl c_law_drawn_span.nd (eiw_pid (pid_seq (pd_var 1 rfl dv1) .l) ⟨rfl, rfl⟩) (blkOk_by (by show blkC n_law_drawn_span (defScope s_law_drawn_span) _ _ = true; decide +kernel))
              (fun m ds ⟨e1, e2⟩ => by rw [e1, e2, List.length_map]; exact ⟨by omega, by omega⟩) (fun m ds es k ⟨e1, e2⟩ e3 e4 e5 => by
                rw [e2, List.length_map] at e3 e5
                exact ⟨by omega, es, rfl, e3, e4⟩) (fun _ _ _ _ _ => pg_name (i := 2) c_law_drawn_span.nd rfl (Or.inl rfl))
              (fun m ds j d v R2 H2 kk hW hd hj s2 s3 dv q2 => q2 _ rfl fun _ _ _ _ _ => ew_eqI hr.units (ew_take (i := 0) F1 hr1 (by decide) rfl (by decide) (by decide) (by omega)) (fun _ _ => pd_int) fun k e ⟨e1, i, e2, _⟩ => ⟨i, e2, by omega, _, rfl⟩))
            (fun m d _ => ews_one (W := fun k d => k = m ∧ d = .list (pts.map tupI)) (ew_pd (pd_var 1 rfl dv1) ⟨rfl, rfl⟩) fun k d ⟨e1, e2⟩ => ⟨e1, by rw [e2]⟩) (fun m d k ds ⟨e1, es, e2, e3, e4⟩ ⟨e5, e6⟩ => by
              obtain ⟨l, h1, h2, h3⟩ := of_bools e3 e4
              exact ⟨by omega, l, by rw [e2, e6, h1, h2], h3⟩)) (fun m ds ⟨e1, l, e2, e3⟩ => by
              have hl6 : l.length ≤ 6 := by
                have := congrArg List.length e3
                rw [List.length_map] at this
                omega
              exact ⟨encS (spanOf l), ⟨l, _, e2, .inl rfl, by omega, rfl⟩, e1, spanOf l, rfl, drawn_runs (by rw [e3]; exact hasc) (by rw [e3]; exact hon) hl6⟩)) fun m d ⟨e1, s, e2, e3⟩ => ⟨n + 14, e1, rfl, rfl, s, e2, e3⟩
      · subst em
        exact EW.up (W := fun m d => m = n + 8 ∧ d = encS [(first, none)]) (ew_pd (pd_call0 F5 hr1 ⟨rfl, rfl⟩) ⟨rfl, rfl⟩) fun m d ⟨e1, e2⟩ => ⟨n + 14, by omega, rfl, rfl, _, e2, drawn_every⟩
end
end NF

set_option Elab.async false
set_option linter.all false
set_option maxRecDepth 100000
set_option maxHeartbeats 2000000
namespace NF
open PySem PySem.Spec PyProof.Rows L2
theorem cutA_sub {α : Type} {l : List α} {lo hi : Option Int} {x : α} (h : x ∈ cutA l lo hi) : x ∈ l := List.mem_of_mem_drop (List.mem_of_mem_take h)
theorem cutA_len {α : Type} (l : List α) (lo hi : Option Int) : (cutA l lo hi).length ≤ l.length := by
  unfold cutA
  rw [List.length_take, List.length_drop]
  omega
theorem fin_two {x y : PyData} (h1 : fin 1 x = true) (h2 : fin 1 y = true) : fin 2 (.tuple [x, y]) = true := fin_t.mpr ⟨Nat.le_trans (Nat.le_refl 2) (by decide), fun d hd => by
  rcases List.mem_cons.mp hd with rfl | hd
  · exact h1
  · rw [List.mem_singleton.mp hd]; exact h2⟩
theorem fin_tup {n : Nat} {ds : List PyData} (h1 : ds.length ≤ 1000) (h2 : ∀ d ∈ ds, fin n d = true) : fin (n + 1) (.tuple ds) = true := fin_t.mpr ⟨h1, h2⟩
section
variable {P : Program} {w : World} {K : PySem.W.Frag} {mg : Str → Option Value} {base : Heap}
def pre_dpairs : Nat → List PyData → Nat → PyData → Prop := fun n ds m d => ds = [] ∧ m = n + 13 ∧ ∃ ps : Span, d = encS ps ∧ ps.length ≤ 6 ∧ ∀ v ∈ endsS ps, v ∈ line
def pre_bent : Nat → List PyData → Nat → PyData → Prop := fun n ds m d => ∃ s, ds = [encS s] ∧ Drawn s ∧ m = n + 2 ∧ fin 8 d = true
theorem df_drawn_pairs (F : At K mg "_law_drawn_pairs" s_law_drawn_pairs ["_law_tin"]) (B : Blt mg) (F1 : Df P w K mg base 1 "_law_take" ["_law_tin", "_law_below_so"] (spW K pre_take 100000)) (F2 : Df P w K mg base 2 "_law_of" ["_law_tin", "_law_goods_so"] (spW K pre_of 50000)) (F3 : Df P w K mg base 1 "_law_line" [] (spD K pre_line)) :
    Df P w K mg base 3 "_law_drawn_pairs" ["_law_tin"] (spW K pre_dpairs 10000) := by
  refine df_box F c_law_drawn_pairs (fun n ds m d h => ?_) fun f cdv A outer s H E t vs R n ds m0 d0 hr dv hn h => ?_
  · obtain ⟨rfl, _⟩ := h; rfl
  · obtain ⟨rfl, _⟩ := h
    cases dv
    have hr1 : Room 1 _ := hr.mono (by decide)
    refine sw_setF 1 c_law_drawn_pairs.nd fl_nil fun l xs R1 s1 r1 dx h0 hR hP => ?_
    cases dx
    refine sw_rng 2 PassesOwn.never rfl B c_law_drawn_pairs.nd (ew_take (i := 0) F1 hr1 (by decide) rfl (by decide) (by decide) (by omega)) (fun m d ⟨_, i, e2, h1, h2⟩ => ⟨i.toNat, by rw [e2]; congr 1; omega, by omega⟩) fun m j R2 ⟨em, i, e2, h1, h2⟩ s2 => ?_
    have hj : j < 7 := by
      have := PyData.int.inj e2
      omega
    refine ⟨fun i k σ R => k = n + 1 + 2 * i ∧ ∃ (u2 u3 u4 : Option V) (ys : List V) (ps : Span), σ = [some (V.ref t), some (V.ref l), u2, u3, u4] ∧ R l = some (.lst ys) ∧ DvAll K R ys (encPs ps) ∧ ps.length = i ∧ ∀ v ∈ endsS ps, v ∈ line,
      ⟨by omega, none, none, none, [], [], rfl, s2 _ _ r1, .nil, rfl, fun v hv => nomatch hv⟩, fun i k σ' R' hi pv sP => ?_, fun k σ' R' pv sP => ?_⟩
    · obtain ⟨ek, u2, u3, u4, ys, ps, rfl, q1, q2, q3, q4⟩ := pv
      have lys : ys.length = i := by rw [DvAll.len q2]; unfold encPs; rw [List.length_map, q3]
      have draw : ∀ {σ : L2.St} {R : Hp} {k2 : Nat} {gs : List PyData} (W : PyData → Prop), True := fun _ => trivial
      refine sw_par 3 4 rfl c_law_drawn_pairs.nd (by decide) (Wl := fun m ds => m = k + 2 ∧ ∃ (v : Ver) (o : Option Ver), ds = [tupI v, encO o] ∧ v ∈ line ∧ ∀ x, o = some x → x ∈ line)
        (ews_cons (W := fun m d => m = k + 1 ∧ ∃ v : Ver, d = tupI v ∧ v ∈ line) (Ws2 := fun m d j ds => j = m + 1 ∧ ∃ o : Option Ver, ds = [encO o] ∧ ∀ x, o = some x → x ∈ line)
          (ew_draw (i := 0) F2 hr rfl (ews_one (Ws := fun m ds => m = k ∧ ds = [.list (line.map tupI)]) (ew_pd (W := fun m d => m = k ∧ d = .list (line.map tupI)) (pd_call0 F3 hr1 ⟨rfl, rfl⟩) ⟨rfl, rfl⟩) fun m d ⟨e1, e2⟩ => ⟨e1, by rw [e2]⟩) (fun m ds ⟨e1, e2⟩ => ?_))
          (fun m d hW => ews_one (W := fun j d => j = m + 1 ∧ ∃ o : Option Ver, d = encO o ∧ ∀ x, o = some x → x ∈ line)
            (ew_draw (i := 0) F2 hr rfl (ews_one (Ws := fun j ds => j = m ∧ ds = [.list (line.map tupI ++ [.none])]) (ew_pd (W := fun j d => j = m ∧ d = .list (line.map tupI ++ [.none])) (pd_cat (pd_call0 F3 hr1 ⟨rfl, rfl⟩) (pd_lst (pds_one pd_non)) (by decide +kernel)) ⟨rfl, rfl⟩) fun j d ⟨e1, e2⟩ => ⟨e1, by rw [e2]⟩) (fun j ds ⟨e1, e2⟩ => ?_)) fun j d ⟨e1, o, e2, e3⟩ => ⟨e1, o, by rw [e2], e3⟩)
          (fun m d j ds ⟨e1, v, e2, e3⟩ ⟨e4, o, e5, e6⟩ => ⟨by omega, v, o, by rw [e2, e5], e3, e6⟩))
        (fun v w R3 m ds s3 dvs ⟨e1, x, o, e2, hx, ho⟩ => ?_) (fun m ds ⟨_, v, o, e2, _⟩ => by rw [e2]; rfl) rfl
      · subst e2
        rw [e1]
        refine ⟨by omega, ⟨k + 1, tupI first, line.map tupI, rfl, by rw [List.length_map, line_len]; decide, by rw [List.length_map, line_len]; decide, rfl, List.mem_map.mpr ⟨first, first_line, rfl⟩⟩, fun j d h => ?_⟩
        obtain ⟨gs, eg, _, _, ej, hd⟩ := h
        have eg' : line.map tupI = gs := PyData.list.inj (List.cons.inj eg).1
        rw [← eg'] at hd
        obtain ⟨v, hv, e⟩ := List.mem_map.mp hd
        exact ⟨ej, v, e.symm, hv⟩
      · subst e2
        rw [e1]
        have hmk : m = k + 1 := hW.1
        refine ⟨by omega, ⟨m + 1, .none, line.map tupI ++ [.none], rfl, by rw [List.length_append, List.length_map, line_len]; decide, by rw [List.length_append, List.length_map, line_len]; decide, rfl, List.mem_append_right _ (List.mem_singleton.mpr rfl)⟩, fun j d h => ?_⟩
        obtain ⟨gs, eg, _, _, ej, hd⟩ := h
        have eg' : line.map tupI ++ [PyData.none] = gs := PyData.list.inj (List.cons.inj eg).1
        rw [← eg'] at hd
        rcases List.mem_append.mp hd with hd | hd
        · obtain ⟨v, hv, e⟩ := List.mem_map.mp hd
          exact ⟨ej, some v, e.symm, fun x ex => by cases ex; exact hv⟩
        · exact ⟨ej, none, List.mem_singleton.mp hd, fun x ex => nomatch ex⟩
      · subst e2
        subst e1
        obtain ⟨_, _, ev, d1, d2⟩ := DvAll.two' dvs
        cases ev
        refine sw_app (i := 1) (W := fun m d => m = k + 2 ∧ d = encP (x, o)) rfl (s3 _ _ q1) h0 hP (lt_line (by omega)) (ew_pd (pd_tup (pds_cons (pd_var 3 rfl d1) (pds_one (pd_var 4 rfl d2)))) ⟨rfl, rfl⟩) fun vn R4 m d s4 dvn ⟨em', ed⟩ r4 => ?_
        subst ed
        refine sw_nil ⟨by omega, _, _, _, ys ++ [vn], ps ++ [(x, o)], rfl, upd_same, ?_, by rw [List.length_append, q3]; rfl, fun v hv => ?_⟩
        · unfold encPs
          rw [List.map_append]
          exact ((DvAll_mono (s3.trans s4) q2).over r4 (noL_encPs _)).app (.cons (dvn.over r4 (noL_encP _)) .nil)
        · unfold endsS at hv q4
          rw [List.flatMap_append] at hv
          rcases List.mem_append.mp hv with z | z
          · exact q4 v z
          · have z' : v = x ∨ v ∈ o.toList := by simpa [endsP] using z
            rcases z' with z' | z'
            · rw [z']; exact hx
            · exact ho v (by simpa using z')
    · obtain ⟨ek, u2, u3, u4, ys, ps, rfl, q1, q2, q3, q4⟩ := pv
      exact sw_ret (EW.up (W := fun m d => m = k ∧ d = encS ps) (ew_pd (pd_tuple B (pd_var 1 rfl (.lst q1 q2)) .l) ⟨rfl, rfl⟩) fun m d ⟨e1, e2⟩ => ⟨n + 13, by omega, rfl, rfl, ps, e2, by omega, q4⟩)
theorem df_bent_span (F : At K mg "_law_bent_span" s_law_bent_span ["_law_tin", "_law_span_so"]) (B : Blt mg) (F1 : Df P w K mg base 1 "_law_take" ["_law_tin", "_law_below_so"] (spW K pre_take 100000)) (F2 : Df P w K mg base 1 "_law_next" ["_law_version_so"] (spD K pre_next)) :
    Df P w K mg base 2 "_law_bent_span" ["_law_tin", "_law_span_so"] (spW K pre_bent 10000) := by
  refine df_box F c_law_bent_span (fun n ds m d h => ?_) fun f cdv A outer s H E t vs R n ds m0 d0 hr dv hn h => ?_
  · obtain ⟨_, rfl, _⟩ := h; rfl
  · obtain ⟨sp, rfl, hD, _⟩ := h
    obtain ⟨v, rfl, a⟩ := DvAll.one' dv
    have pok : ∀ p ∈ sp, POk p := fun p hp v hv => by
      have := (line_ok v (hD.on v (List.mem_flatMap.mpr ⟨p, hp, hv⟩))).1
      exact ⟨fun e => (by rw [e] at this; cases this), by omega⟩
    have elen : (encPs sp).length ≤ 6 := by unfold encPs; rw [List.length_map]; exact hD.few
    have efin : ∀ d ∈ encPs sp, fin 2 d = true := fun d hd => by
      obtain ⟨p, hp, rfl⟩ := List.mem_map.mp hd
      exact fin_encP (pok p hp)
    have shf : SeqAt.shaped (.list (encPs sp)) = true := fin_shaped (n := 3) (fin_l.mpr ⟨by omega, efin⟩)
    have big : 100 ≤ sizeLine := by decide
    -- what is handed back
    have back : ∀ {X : Cx} {m : Nat} {σ : L2.St} {R0 P R : Hp} {N : Nat → L2.St → Hp → Prop} {e : Expr} {d : PyData} {rest : List Stmt} {pos : Pos}, m ≤ n + 2 → PD X e σ R d → fin 8 d = true → SW X (some t) m (.Return (some e) pos :: rest) σ R0 P R N (fun m e => pre_bent n [encS sp] m e) := fun {X m σ R0 P R N e d rest pos} hm h hf =>
      sw_ret (EW.up (W := fun k e => k = m ∧ e = d) (ew_pd h ⟨rfl, rfl⟩) fun k e ⟨e1, e2⟩ => ⟨n + 2, by omega, sp, rfl, hD, rfl, by rw [e2]; exact hf⟩)
    have fin8 : ∀ {ds : List PyData}, ds.length ≤ 1000 → (∀ d ∈ ds, fin 2 d = true) → fin 8 (.tuple ds) = true := fun h1 h2 => fin_tup h1 fun d hd => fin_mono (h2 d hd) (by decide)
    refine sw_par 2 3 rfl c_law_bent_span.nd (by decide) (Wl := fun m ds => m = n + 1 ∧ ∃ i : Int, ds = [.int i, .list (encPs sp)])
      (ews_cons (W := fun m d => m = n + 1 ∧ ∃ i, d = .int i ∧ 0 ≤ i ∧ i < 7) (Ws2 := fun m d j ds => j = m ∧ ds = [.list (encPs sp)]) (ew_take (i := 0) F1 hr (by decide) rfl (by decide) (by decide) (by omega)) (fun m d _ => ews_one (W := fun j d => j = m ∧ d = .list (encPs sp)) (ew_pd (pd_list B (pd_var 1 rfl a) .t) ⟨rfl, rfl⟩) fun j d ⟨e1, e2⟩ => ⟨e1, by rw [e2]⟩)
        (fun m d j ds ⟨e1, i, e2, _⟩ ⟨e3, e4⟩ => ⟨by omega, i, by rw [e2, e4]⟩)) (fun v2 v3 R1 m ds s1 dvs ⟨em, i, ed⟩ => ?_) (fun m ds ⟨_, i, e⟩ => by rw [e]; rfl) rfl
    subst ed
    subst em
    obtain ⟨_, _, ev, d2, d3⟩ := DvAll.two' dvs
    cases ev
    refine sw_set 4 c_law_bent_span.nd (W := fun m d => m ≤ n + 2 ∧ ∃ z : Nat, d = .int (z : Int) ∧ (sp ≠ [] → z < sp.length)) (ew_if (Wc := fun m b => m = n + 1 ∧ b = !PyData.eqv (.list (encPs sp)) (.list [])) (ewt_pt (ptd_ne hr.units (pd_var 3 rfl d3) (pd_lst pds_nil) shf rfl) ⟨rfl, rfl⟩) (fun m ⟨em, hb⟩ => ?_) (fun m ⟨em, hb⟩ => ?_)) fun v4 R2 m d s2 d4 ⟨hm, z, ed, hz⟩ => ?_
    · subst em
      have hne : 0 < sp.length := by
        cases sp with
        | nil => cases hb
        | cons => exact Nat.succ_pos _
      have elp : (encPs sp).length = sp.length := by unfold encPs; rw [List.length_map]
      refine ew_draw (i := 0) (Ws := fun m' ds => m' = n + 1 ∧ ds = [.int ((encPs sp).length : Int)]) F1 hr rfl (ews_one (W := fun m' d => m' = n + 1 ∧ d = .int ((encPs sp).length : Int)) (ew_pd (pd_len B (pd_var 3 rfl d3) .l) ⟨rfl, rfl⟩) fun m' d ⟨e1, e2⟩ => ⟨e1, by rw [e2]⟩) fun m' ds ⟨e1, e2⟩ => ?_
      subst e2
      rw [e1]
      refine ⟨by omega, ⟨n + 1 + 1, .int 0, ((encPs sp).length : Int), rfl, by omega, by omega, rfl, 0, rfl, by omega, by omega⟩, fun j d h => ?_⟩
      obtain ⟨b, eb, _, _, ej, i, ed, hi⟩ := h
      cases eb
      exact ⟨by omega, i.toNat, by rw [ed]; congr 1; omega, fun _ => by omega⟩
    · subst em
      have hnil : sp = [] := by
        cases sp with
        | nil => rfl
        | cons => rw [eqv_nilL] at hb; cases hb
      exact ew_pd pd_int ⟨by omega, 0, rfl, fun h => absurd hnil h⟩
    · subst ed
      have d1' := Dv_mono (s1.trans s2) a
      have d2' := Dv_mono s2 d2
      have d3' := Dv_mono s2 d3
      refine sw_ifR (b := PyData.eqv (.int i) (.int 0) || PyData.eqv (.list (encPs sp)) (.list [])) (ptd_or (ptd_eq hr.units (pd_var 2 rfl d2') pd_int rfl rfl) fun _ => pwd_or1 (ptd_eq hr.units (pd_var 3 rfl d3') (pd_lst pds_nil) shf rfl)) (fun _ R3 s3 => back hm (pd_list B (pd_var 1 rfl (Dv_mono s3 d1')) .t) (fin_mono (n := 3) (fin_l.mpr ⟨by omega, efin⟩) (by decide))) fun hb0 R3 s3 => ?_
      have hsp : sp ≠ [] := by
        intro e
        rw [e] at hb0
        simp [eqv_nilL, encPs] at hb0
      have hz' := hz hsp
      obtain ⟨p, hp⟩ : ∃ p, sp[z]? = some p := ⟨_, List.getElem?_eq_getElem hz'⟩
      have hpm := List.mem_of_getElem? hp
      obtain ⟨lo, hi⟩ := p
      have hat : atI (encPs sp) (z : Int) = some (encP (lo, hi)) := by
        have hl : z < (encPs sp).length := by unfold encPs; rw [List.length_map]; exact hz'
        have : ixN (encPs sp).length (z : Int) = some z := by
          unfold ixN
          simp [hl]
        unfold L2.atI
        rw [this]
        show (encPs sp)[z]? = _
        unfold encPs
        rw [List.getElem?_map, hp]
        rfl
      have plo := (pok _ hpm).lo
      have l4 := (line_ok lo (hD.on lo (List.mem_flatMap.mpr ⟨_, hpm, List.mem_cons_self⟩))).1
      have c1 : ∀ o1 o2, (cutA (encPs sp) o1 o2).length ≤ 6 := fun o1 o2 => Nat.le_trans (cutA_len _ _ _) elen
      have c2 : ∀ o1 o2, ∀ d ∈ cutA (encPs sp) o1 o2, fin 2 d = true := fun o1 o2 d hd => efin d (cutA_sub hd)
      -- found[:k] + mid + found[k + 1:]
      have joinF : ∀ {mid : List PyData}, mid.length ≤ 2 → (∀ d ∈ mid, fin 2 d = true) → fin 8 (.tuple (cutA (encPs sp) none (some (z : Int)) ++ mid ++ cutA (encPs sp) (some ((z : Int) + 1)) none)) = true := fun {mid} h1 h2 => fin8 (by
        have q1 := c1 none (some (z : Int))
        have q2 := c1 (some ((z : Int) + 1)) none
        rw [List.length_append, List.length_append]
        omega) fun d hd => by
        rcases List.mem_append.mp hd with hd | hd
        · rcases List.mem_append.mp hd with hd | hd
          · exact c2 _ _ d hd
          · exact h2 d hd
        · exact c2 _ _ d hd
      have b1 : ∀ {mid : List PyData}, mid.length ≤ 2 → (cutA (encPs sp) none (some (z : Int))).length + mid.length ≤ sizeLine := fun {mid} h1 => Nat.le_trans (by have := c1 none (some (z : Int)); omega) big
      have b2 : ∀ {mid : List PyData}, mid.length ≤ 2 → (cutA (encPs sp) none (some (z : Int)) ++ mid).length + (cutA (encPs sp) (some ((z : Int) + 1)) none).length ≤ sizeLine := fun {mid} h1 => Nat.le_trans (by
        have q1 := c1 none (some (z : Int))
        have q2 := c1 (some ((z : Int) + 1)) none
        rw [List.length_append]
        omega) big
      refine sw_ifR (b := PyData.eqv (.int i) (.int 1)) (ptd_eq hr.units (pd_var 2 rfl (Dv_mono s3 d2')) pd_int rfl rfl) (fun _ R4 s4 => back hm (pd_tuple B (pd_rev (pd_var 3 rfl (Dv_mono (s3.trans s4) d3'))) .l) (fin8 (by rw [List.length_reverse]; omega) fun d hd => efin d (List.mem_reverse.mp hd))) fun _ R4 s4 => ?_
      have s34 := s3.trans s4
      refine sw_ifR (b := PyData.eqv (.int i) (.int 2)) (ptd_eq hr.units (pd_var 2 rfl (Dv_mono s34 d2')) pd_int rfl rfl) (fun _ R5 s5 => back hm (pd_tuple B (pd_cat (pd_var 3 rfl (Dv_mono (s34.trans s5) d3')) (pd_lst (pds_one (pd_ix (f := encP (lo, hi)) (pd_var 3 rfl (Dv_mono (s34.trans s5) d3')) (pd_var 4 rfl (Dv_mono (s34.trans s5) d4)) .l hat))) (Nat.le_trans (by rw [List.length_singleton]; omega) big)) .l) (fin8 (by rw [List.length_append, List.length_singleton]; omega) fun d hd => by
        rcases List.mem_append.mp hd with hd | hd
        · exact efin d hd
        · rw [List.mem_singleton.mp hd]; exact fin_encP (pok _ hpm))) fun _ R5 s5 => ?_
      have s35 := s34.trans s5
      have vf : ∀ {R6 : Hp}, Same R5 R6 → Dv K R6 v3 (.list (encPs sp)) := fun s6 => Dv_mono (s35.trans s6) d3'
      have vk : ∀ {R6 : Hp}, Same R5 R6 → Dv K R6 v4 (.int (z : Int)) := fun s6 => Dv_mono (s35.trans s6) d4
      refine sw_ifR (b := PyData.eqv (.int i) (.int 3)) (ptd_eq hr.units (pd_var 2 rfl (Dv_mono s35 d2')) pd_int rfl rfl) (fun _ R6 s6 => back hm (pd_tuple B (pd_cat (pd_cat (pd_sliceL (pd_var 3 rfl (vf s6)) pod_none (pod_some (pd_var 4 rfl (vk s6)))) (pd_lst (pds_one (pd_tup (pds_cons (pd_ix (f := tupI lo) (ds := [tupI lo, encO hi]) (pd_ix (f := encP (lo, hi)) (pd_var 3 rfl (vf s6)) (pd_var 4 rfl (vk s6)) .l hat) pd_int .t rfl) (pds_one (pd_ix (f := tupI lo) (ds := [tupI lo, encO hi]) (pd_ix (f := encP (lo, hi)) (pd_var 3 rfl (vf s6)) (pd_var 4 rfl (vk s6)) .l hat) pd_int .t rfl)))))) (b1 (Nat.le_succ _))) (pd_sliceL (pd_var 3 rfl (vf s6)) (pod_some (pd_add (pd_var 4 rfl (vk s6)) pd_int)) pod_none) (b2 (Nat.le_succ _))) .l)
        (joinF (Nat.le_succ _) fun d hd => by rw [List.mem_singleton.mp hd]; exact fin_two (fin_tupI plo.2) (fin_tupI plo.2))) fun _ R6 s6 => ?_
      refine sw_ifR (b := PyData.eqv (.int i) (.int 4)) (ptd_eq hr.units (pd_var 2 rfl (Dv_mono (s35.trans s6) d2')) pd_int rfl rfl) (fun _ R7 s7 => back hm (pd_tuple B (pd_cat (pd_cat (pd_sliceL (pd_var 3 rfl (vf (s6.trans s7))) pod_none (pod_some (pd_var 4 rfl (vk (s6.trans s7))))) (pd_lst (pds_one (pd_tup (pds_cons (pd_ix (f := tupI lo) (ds := [tupI lo, encO hi]) (pd_ix (f := encP (lo, hi)) (pd_var 3 rfl (vf (s6.trans s7))) (pd_var 4 rfl (vk (s6.trans s7))) .l hat) pd_int .t rfl) (pds_one pd_non))))) (b1 (Nat.le_succ _))) (pd_sliceL (pd_var 3 rfl (vf (s6.trans s7))) (pod_some (pd_add (pd_var 4 rfl (vk (s6.trans s7))) pd_int)) pod_none) (b2 (Nat.le_succ _))) .l)
        (joinF (Nat.le_succ _) fun d hd => by rw [List.mem_singleton.mp hd]; exact fin_two (fin_tupI plo.2) rfl)) fun _ R7 s7 => ?_
      have s67 := s6.trans s7
      refine sw_ifR (b := PyData.eqv (.int i) (.int 5)) (ptd_eq hr.units (pd_var 2 rfl (Dv_mono (s35.trans s67) d2')) pd_int rfl rfl) (fun _ R8 s8 => back hm (pd_tuple B (pd_cat (pd_cat (pd_sliceL (pd_var 3 rfl (vf (s67.trans s8))) pod_none (pod_some (pd_var 4 rfl (vk (s67.trans s8))))) (pd_lst (pds_one (pd_list B (pd_ix (f := encP (lo, hi)) (pd_var 3 rfl (vf (s67.trans s8))) (pd_var 4 rfl (vk (s67.trans s8))) .l hat) .t))) (b1 (Nat.le_succ _))) (pd_sliceL (pd_var 3 rfl (vf (s67.trans s8))) (pod_some (pd_add (pd_var 4 rfl (vk (s67.trans s8))) pd_int)) pod_none) (b2 (Nat.le_succ _))) .l)
        (joinF (Nat.le_succ _) fun d hd => by rw [List.mem_singleton.mp hd]; exact fin_l.mpr (fin_t.mp (fin_encP (pok _ hpm))))) fun _ R8 s8 => ?_
      have s68 := s67.trans s8
      refine sw_setD 5 c_law_bent_span.nd (pd_ix (f := tupI lo) (ds := [tupI lo, encO hi]) (pd_ix (f := encP (lo, hi)) (pd_var 3 rfl (vf s68)) (pd_var 4 rfl (vk s68)) .l hat) pd_int .t rfl) fun v5 R9 s9 d5 => ?_
      obtain ⟨x, y, q, u, rfl⟩ : ∃ x y q u, lo = [x, y, q, u] := by
        match lo, l4 with
        | [x, y, q, u], _ => exact ⟨x, y, q, u, rfl⟩
      have s69 := s68.trans s9
      refine sw_setD 6 c_law_bent_span.nd (pd_call F2 (hr.mono (by decide)) (pds_one (pd_var 5 rfl d5)) ⟨x, y, q, u, rfl, rfl⟩) fun v6 R10 s10 d6 => ?_
      have s6a := s69.trans s10
      have nl : (nextV x y q u).length ≤ 1000 := by unfold nextV; split <;> (show 4 ≤ 1000; decide)
      refine back hm (pd_tuple B (pd_cat (pd_cat (pd_sliceL (pd_var 3 rfl (vf s6a)) pod_none (pod_some (pd_var 4 rfl (vk s6a)))) (pd_lst (pds_cons (pd_tup (pds_cons (pd_var 5 rfl (Dv_mono s10 d5)) (pds_one (pd_var 6 rfl d6)))) (pds_one (pd_tup (pds_cons (pd_var 6 rfl d6) (pds_one (pd_ix (f := encO hi) (ds := [tupI [x, y, q, u], encO hi]) (pd_ix (f := encP ([x, y, q, u], hi)) (pd_var 3 rfl (vf s6a)) (pd_var 4 rfl (vk s6a)) .l hat) pd_int .t rfl))))))) (b1 (Nat.le_refl _))) (pd_sliceL (pd_var 3 rfl (vf s6a)) (pod_some (pd_add (pd_var 4 rfl (vk s6a)) pd_int)) pod_none) (b2 (Nat.le_refl _))) .l)
        (joinF (Nat.le_refl _) fun d hd => ?_)
      have fhi : fin 1 (encO hi) = true := fin_encO fun v e => ((pok _ hpm).hi e).2
      rcases List.mem_cons.mp hd with rfl | hd
      · exact fin_two (fin_tupI (Nat.le_trans (Nat.le_refl 4) (by decide))) (fin_tupI nl)
      · rw [List.mem_singleton.mp hd]
        exact fin_two (fin_tupI nl) fhi
end
end NF

set_option Elab.async false
set_option linter.all false
set_option maxRecDepth 100000
set_option maxHeartbeats 2000000
namespace NF
open PySem PySem.Spec PyProof.Rows L2
theorem atI_nat {α : Type} {l : List α} {z : Nat} {x : α} (h : l[z]? = some x) : atI l (z : Int) = some x := by
  have hz := (List.getElem?_eq_some_iff.mp h).1
  have : ixN l.length (z : Int) = some z := by
    unfold ixN
    simp [hz]
  unfold L2.atI
  rw [this]
  exact h
theorem ixN_nat {n z : Nat} (h : z < n) : ixN n (z : Int) = some z := by
  unfold ixN
  simp [h]
theorem abs_nn (i : Int) : 0 ≤ (if i < 0 then -i else i) := by split <;> omega
theorem bit_nn (b : Bool) : (0 : Int) ≤ (if b = true then 1 else 0) := by cases b <;> decide
theorem cmul_bit (i : Int) (b : Bool) : CMul i (if b = true then 1 else 0) := by
  cases b
  · exact .inr ⟨by decide, by decide⟩
  · exact .inr ⟨by decide, by decide⟩
/-- the box's promise: a new list, not yet read -/
def spBox (K : PySem.W.Frag) : Sp := fun vs H Q _ => ∃ (R : Hp) (ns : List Int) (k : Nat), Same R H ∧ DvAll K R vs [.list (ns.map .int), .int (k : Int)] ∧ k < ns.length ∧ ns.length ≤ 10 ∧
  ∀ l H' R' (a b : Int), Grow R H R' H' → H' l = none → 0 ≤ a → 0 ≤ b → Q (.ref l) (upd H' l (.lst [.int a, .int b, .int 0]))
/-- the cells' promise: one or two ints -/
def spCells (K : PySem.W.Frag) : Sp := fun vs H Q _ => ∃ (R : Hp) (a : Addr) (ns : List Int), vs = [.ref a, .int 2] ∧ Same R H ∧ SqL K R a (ns.map V.int) ∧ ns.length ≤ 63 ∧
  ∀ v H' R' (ms : List Int), Grow R H R' H' → Dv K R' v (.list (ms.map .int)) → 1 ≤ ms.length → ms.length ≤ 2 → Q v H'
def enumI : Nat → List Int → List (Nat × Int)
  | _, [] => []
  | n, s :: ss => (n, s) :: enumI (n + 1) ss
theorem enumD_int : ∀ (n : Nat) (ss : List Int), enumD n (ss.map PyData.int) = (enumI n ss).map fun z => .tuple [.int (z.1 : Nat), .int z.2]
  | _, [] => rfl
  | n, s :: ss => by
    show _ :: enumD (n + 1) (ss.map PyData.int) = _ :: (enumI (n + 1) ss).map _
    rw [enumD_int (n + 1) ss]
theorem enumI_len : ∀ (n : Nat) (ss : List Int), (enumI n ss).length = ss.length
  | _, [] => rfl
  | n, s :: ss => by rw [enumI, List.length_cons, List.length_cons, enumI_len]
theorem enumI_lt : ∀ {n : Nat} {ss : List Int} {z : Nat × Int}, z ∈ enumI n ss → z.1 < n + ss.length
  | _, [], _, h => nomatch h
  | n, s :: ss, z, h => by
    rcases List.mem_cons.mp h with rfl | h
    · show n < n + (s :: ss).length
      rw [List.length_cons]; omega
    · have := enumI_lt h
      rw [List.length_cons]; omega
theorem cutA_map {α β : Type} (f : α → β) (l : List α) (lo hi : Option Int) : cutA (l.map f) lo hi = (cutA l lo hi).map f := by
  unfold cutA
  rw [List.length_map, List.map_take, List.map_drop]
theorem cut_two (l : List Int) : (cutA l none (some 2)).length = min 2 l.length := by
  unfold cutA
  rw [show HT.sIx l.length 0 none = 0 from rfl, show HT.sIx l.length l.length (some 2) = min 2 l.length from HT.sIx_nat l.length l.length 2, List.drop_zero, Nat.sub_zero, List.length_take]
  omega
theorem cut_rest (l : List Int) (hi : Option Int) (h : 0 < (cutA l (some 2) hi).length) : 2 < l.length := by
  unfold cutA at h
  rw [show HT.sIx l.length 0 (some 2) = min 2 l.length from HT.sIx_nat l.length 0 2, List.length_take, List.length_drop] at h
  omega
section
variable {X : Cx} {a b : Expr} {σ : L2.St} {R : Hp} {ds : List PyData} {pos p : Pos} {lo hi : Option Expr} {i j : Option Int} {p2 : Pos}
/-- a slice of a list that may be known -/
theorem pd_sliceS {q : Addr} {ns : List Int} {k : Nat} {x : Str} {px : Pos} (hσ : σ[k]? = some (some (.ref q))) (hs : SqL X.K R q (ns.map V.int)) (hl : POD X lo σ R i) (hh : POD X hi σ R j)
    (hN : X.N[k]? = some x := by rfl) (hv : Vis X.env.scope x := by first | exact Or.inl rfl | exact Or.inr (Or.inl rfl) | exact Or.inr (Or.inr rfl)) (hdb : (x == ("__debug__" : Str)) = false := by decide) (hcd : (x == ("__classdict__" : Str)) = false := by decide) :
    PD X (.Subscript (.Name x px) (.Slice lo hi none p2) pos) σ R (.list ((cutA ns i j).map .int)) := by
  obtain ⟨tl, l1, l2⟩ := hl
  obtain ⟨th, h1, h2⟩ := hh
  refine .of (pe_slice sl_list (pe_var hN hv hdb hcd) l1 h1) fun H Q sb k => ⟨.ref q, hσ, ?_⟩
  refine l2 H _ sb fun H2 R2 g2 => ?_
  refine h2 H2 _ (g2.sub.trans g2.inn) fun H3 R3 g3 => ?_
  obtain ⟨g3', s3⟩ := g3.wide g2.sub g2.inn
  refine ⟨q, ns.map V.int, rfl, (sb.trans (g2.ext.trans g3.ext)).seq hs, fun l hl => k _ _ _ ((g2.trans g3').trans (Grow.add g3'.inn hl)) (.lst upd_same ?_)⟩
  have e : cutV (ns.map V.int) i j = (cutA ns i j).map V.int := cutA_map V.int ns i j
  rw [e]
  exact DvAll.ofInts _
/-- list(a) or [0] -/
theorem fl_or0 {kz : Nat} {z1 z2 z3 : Pos} (ha : FL X a σ R ds) : FL X (.BoolOp .Or [a, .List [.Constant (.int 0) kz z1] z2] z3) σ R (if ds.isEmpty then [.int 0] else ds) :=
  .of (pe_orT pe_fl (pe_one (pe_lst (pa_cons pe_int pa_nil (by rfl))))) fun H Q sb k => ⟨R, ds, sb, ha, fun l xs H' R' g hl r dv => by
    have e : xs.isEmpty = ds.isEmpty := by
      cases dv <;> rfl
    refine ⟨!xs.isEmpty, .inl ⟨xs, SqL.of (g.inn _ _ r), rfl⟩, ?_⟩
    cases hd : ds.isEmpty with
    | true =>
      rw [e, hd]
      refine ⟨Nat.le_trans (Nat.le_refl 1) (by decide), fun q hq => ?_⟩
      rw [hd] at k
      exact k q [.int 0] _ _ (g.trans (Grow.add g.inn hq)) (g.ext.free hq) upd_same (.cons (.int 0) .nil)
    | false =>
      rw [e, hd]
      rw [hd] at k
      exact k l xs H' R' g hl r dv⟩
end
section
variable {P : Program} {w : World} {K : PySem.W.Frag} {mg : Str → Option Value} {base : Heap}
theorem df_box_def (F : At K mg "_law_box" s_law_box ["_law_script", "_law_k"]) (B : Blt mg) : Df P w K mg base 1 "_law_box" ["_law_script", "_law_k"] (spBox K) := by
  refine df_sp F c_law_box (fun vs H Q E h => ?_) fun f cdv A outer s H E vs Q hr h => ?_
  · obtain ⟨R, ns, k, _, dv, _⟩ := h
    rw [DvAll.len dv]
    rfl
  · obtain ⟨R, ns, k, sb, dv, hk, hl, q⟩ := h
    obtain ⟨v, u, rfl, a, b⟩ := DvAll.two' dv
    cases b
    refine ⟨_, pss_cons (ps_set (i := 2) c_law_box.nd rfl (Or.inl rfl) pe_pd) (pss_one (ps_ret (pe_lst pa_pd))), ?_⟩
    have hat : atI (ns.map PyData.int) (k : Int) = some (.int ns[k]) := atI_nat (by rw [List.getElem?_map, List.getElem?_eq_getElem hk]; rfl)
    have hlt : ((k : Nat) : Int) < ((ns.map PyData.int).length : Int) := by rw [List.length_map]; omega
    refine ⟨R, .int ns[k], sb, PD.eq (pd_if (d2 := .none) (ptd_lt (pd_var 1 rfl (.int _)) (pd_len B (pd_var 0 rfl a) .l)) (fun _ => pd_ix (pd_var 0 rfl a) (pd_var 1 rfl (.int _)) .l hat) fun z => absurd hlt (of_decide_eq_false z)) (by rw [if_pos (decide_eq_true hlt)]), fun vc H1 R1 g1 dc => ?_⟩
    generalize ns[k] = c at dc
    have hc0 := abs_nn c
    refine ⟨R1, [.int ((if c < 0 then -c else c) * (if decide ((10 : Int) ^ (18 : Int).toNat ≤ (if c < 0 then -c else c)) then 1 else 0)), .int (c.fmod 2305843009213693951 + 39373 * (k : Int) + 9751), .int 0], g1.inn, pds_cons (pd_mul (pd_abs B (pd_var 2 rfl dc)) (pd_int1b B (pd_ge (pd_abs B (pd_var 2 rfl dc)) (pd_pow pd_int pd_int ⟨by decide, by decide, by decide⟩))) (cmul_bit _ _)) (pds_cons (pd_add (pd_add (pd_mod (pd_int1 B (pd_var 2 rfl dc)) pd_int (by decide)) (pd_mul pd_int (pd_var 1 rfl (.int _)) (.inl ⟨by decide, by decide⟩))) pd_int) (pds_one pd_int)), fun vs H2 R2 g2 dvs => ?_⟩
    have hm : 0 ≤ c.fmod 2305843009213693951 := Int.fmod_nonneg_of_pos _ (by decide)
    cases dvs with
    | cons x1 r1 =>
      cases x1
      obtain ⟨y1, y2, rfl, z1, z2⟩ := DvAll.two' r1
      cases z1
      cases z2
      exact ⟨Nat.le_trans (Nat.le_refl 3) (by decide), fun l hl' => q l H2 R2 _ _ (g1.trans g2) hl' (Int.mul_nonneg hc0 (bit_nn _)) (by omega)⟩
theorem df_cells (F : At K mg "_law_cells" s_law_cells ["_law_script", "_law_most_so"]) (B : Blt mg) : Df P w K mg base 1 "_law_cells" ["_law_script", "_law_most_so"] (spCells K) := by
  refine df_sp F c_law_cells (fun vs H Q E h => ?_) fun f cdv A outer s H E vs Q hr h => ?_
  · obtain ⟨R, a, ns, rfl, _⟩ := h
    rfl
  · obtain ⟨R, a, ns, rfl, sb, hs, hl, q⟩ := h
    have body : SW (dcx P w K mg base n_law_cells "_law_cells" (defScope s_law_cells) f cdv A outer s H E) none 0 (defBody s_law_cells) (start n_law_cells [.ref a, .int 2]) R R R (fun _ _ _ => False) (fun _ d => ∃ ms : List Int, d = .list (ms.map .int) ∧ 1 ≤ ms.length ∧ ms.length ≤ 2) := by
      refine sw_setF 2 c_law_cells.nd (fl_or0 (fl_list B (pd_sliceS (k := 0) rfl hs pod_none (pod_some (pd_var 1 rfl (.int 2)))) .l)) fun l xs R1 s1 r1 dx h0 hR hP => ?_
      obtain ⟨ms, em, hm1, hm2, hm3⟩ : ∃ ms : List Int, (if ((cutA ns none (some 2)).map PyData.int).isEmpty then [PyData.int 0] else (cutA ns none (some 2)).map PyData.int) = ms.map .int ∧ 1 ≤ ms.length ∧ ms.length ≤ 2 ∧ (2 < ns.length → ms.length = 2) := by
        have hc := cut_two ns
        cases hcc : cutA ns none (some 2) with
        | nil =>
          rw [hcc] at hc
          refine ⟨[0], rfl, Nat.le_refl _, by decide, fun h => ?_⟩
          have : ([] : List Int).length = 0 := rfl
          omega
        | cons x r =>
          rw [hcc] at hc
          refine ⟨x :: r, rfl, by rw [List.length_cons]; omega, by omega, fun h => by omega⟩
      rw [em] at dx
      have hxs : xs = ms.map V.int := DvAll.ints dx
      subst hxs
      refine sw_forT (l := enumI 0 (cutA ns (some 2) (some 63))) (enc := fun z => .tuple [.int (z.1 : Nat), .int z.2]) (fun i σ R => ∃ (ms : List Int) (u3 u4 u5 : Option V), σ = [some (V.ref a), some (V.int 2), some (V.ref l), u3, u4, u5] ∧ R l = some (.lst (ms.map V.int)) ∧ 1 ≤ ms.length ∧ ms.length ≤ 2 ∧ (2 < ns.length → ms.length = 2))
        PassesOwn.never rfl ?_ (pg2 3 4 rfl c_law_cells.nd) (fun R2 s2 => ⟨ms, none, none, none, rfl, s2 _ _ r1, hm1, hm2, hm3⟩)
        (fun i σ R R' h s => ?_) (fun i z u j σ' R' P1 H1 kk hz hfree pv sP1 du sH k => ?_) (fun j σ' R' pv sP => ?_)
      · rw [← enumD_int]
        exact pid_enum B (pd_sliceS (k := 0) rfl hs (pod_some (pd_var 1 rfl (.int 2))) (pod_some pd_int)) .l
      · obtain ⟨ms, u3, u4, u5, e, d1, d2⟩ := h
        exact ⟨ms, u3, u4, u5, e, s _ _ d1, d2⟩
      · obtain ⟨ms, u3, u4, u5, rfl, d1, d2, d3, d4⟩ := pv
        have hP1 : P1 l = none := hfree l (by rw [r1]; exact fun z => nomatch z) hP
        have hzm := List.mem_of_getElem? hz
        have hlen2 : ms.length = 2 := d4 (cut_rest ns (some 63) (by
          have := (List.getElem?_eq_some_iff.mp hz).1
          rw [enumI_len] at this
          omega))
        obtain ⟨zk, zc⟩ := z
        refine g_two sH du fun v1 v2 h1 h2 => k _ ?_
        cases h1
        cases h2
        have hmod0 : 0 ≤ ((zk : Nat) : Int).fmod 2 := Int.fmod_nonneg_of_pos _ (by decide)
        have hmod1 : ((zk : Nat) : Int).fmod 2 < 2 := Int.fmod_lt_of_pos _ (by decide)
        refine sw_setD 5 c_law_cells.nd (pd_mod (pd_int1 B (pd_var 3 rfl (.int _))) (pd_var 1 rfl (.int 2)) (by decide)) fun v5 R2 s2 d5 => ?_
        obtain ⟨at', eat⟩ : ∃ z : Nat, ((zk : Nat) : Int).fmod 2 = (z : Int) := ⟨(((zk : Nat) : Int).fmod 2).toNat, by omega⟩
        rw [eat] at d5
        have hat : at' < ms.length := by omega
        have dl : Dv K R2 (.ref l) (.list (ms.map .int)) := .lst (s2 _ _ d1) (DvAll.ofInts ms)
        have hix : atI (ms.map PyData.int) (at' : Int) = some (.int ms[at']) := atI_nat (by rw [List.getElem?_map, List.getElem?_eq_getElem hat]; rfl)
        refine sw_put (i := 2) (k := (at' : Int)) (j := at') (W := fun m d => m = j ∧ d = .int (ms[at'] + zc * ((zk : Int) + 2))) rfl (s2 _ _ d1) h0 hP1 (ixN_nat (by rw [List.length_map]; exact hat)) (ew_pd (pd_add (pd_ix (pd_var 2 rfl dl) (pd_var 5 rfl d5) .l hix) (pd_mul (pd_var 4 rfl (.int _)) (pd_add (pd_var 3 rfl (.int _)) pd_int) (by
          have hlt := enumI_lt hzm
          have hcl := cutA_len ns (some 2) (some 63)
          exact cmul_r (by omega) (by simp only at hlt; omega)))) ⟨rfl, rfl⟩) (fun R3 s3 => pd_var 5 rfl (Dv_mono s3 d5)) fun vn R3 m d s3 dvn ⟨em, ed⟩ r3 => ?_
        subst ed
        cases dvn
        refine sw_nil ⟨ms.set at' (ms[at'] + zc * ((zk : Int) + 2)), _, _, _, rfl, by rw [upd_same, List.map_set], by rw [List.length_set]; exact d2, by rw [List.length_set]; exact d3, fun h => by rw [List.length_set]; exact d4 h⟩
      · obtain ⟨ms, u3, u4, u5, rfl, d1, d2, d3, d4⟩ := pv
        exact sw_retD (pd_var 2 rfl (.lst d1 (DvAll.ofInts ms))) ⟨ms, rfl, d2, d3⟩
    exact ⟨_, pss_sw, none, 0, R, R, R, H, _, _, trivial, Grow.refl sb, Same.refl _, body, fun _ _ _ _ _ _ _ z => z.elim, fun v H' R' m e _ g dv' ⟨ms, e1, e2, e3⟩ => by
      subst e1
      exact q v H' R' ms g dv' e2 e3⟩
end
end NF

set_option Elab.async false
set_option linter.all false
set_option maxRecDepth 100000
set_option maxHeartbeats 4000000
namespace NF
open PySem PySem.Spec PyProof.Rows L2
def okB (ss : List Span) : Bool := (ends ss).all (fun v => !v.isEmpty && decide (v.length ≤ 1000)) && decide ((ends ss).length ≤ 62) && decide (ss.length ≤ 62)
theorem ssOk_by {ss : List Span} (h : okB ss = true) : SsOk ss := by
  unfold okB at h
  rw [Bool.and_eq_true, Bool.and_eq_true, List.all_eq_true] at h
  refine ⟨fun v hv => ?_, of_decide_eq_true h.1.2, of_decide_eq_true h.2⟩
  have := h.1.1 v hv
  rw [Bool.and_eq_true] at this
  refine ⟨fun e => ?_, of_decide_eq_true this.2⟩
  rw [e] at this
  cases this.1
theorem dva_two {K : PySem.W.Frag} {H : Hp} {v w : V} {d e : PyData} (h : DvAll K H [v, w] [d, e]) : Dv K H v d ∧ Dv K H w e := by
  cases h with
  | cons a b => cases b with
    | cons c _ => exact ⟨a, c⟩
section
variable {X : Cx} {t : Option Addr} {n : Nat} {rest : List Stmt} {a b : Expr} {σ : L2.St} {R0 P R : Hp} {N : Nat → L2.St → Hp → Prop} {T : Nat → PyData → Prop} {d1 d2 : PyData} {es fs : List PyData} {pos : Pos}
theorem sw_sig {body : List Stmt} {σ2 : L2.St} (h : SW X t n body σ2 R0 P R N T) (e : σ = σ2) : SW X t n body σ R0 P R N T := e ▸ h
theorem fl_cat (ha : PD X a σ R (.list es)) (hb : PD X b σ R (.list fs)) (hl : es.length + fs.length ≤ sizeLine) : FL X (.BinOp a .Add b pos) σ R (es ++ fs) :=
  .of (pe_op op_cat pe_pd pe_pd) fun H Q sb k => ⟨R, _, sb, ha, fun v H1 R1 g1 dv => ⟨R1, _, g1.inn, hb.mono g1.sub, fun u H2 R2 g2 du => by
    obtain ⟨p, xs, rfl, hs, hx⟩ := (Dv_mono g2.sub dv).lstE
    obtain ⟨q, ys, rfl, ht, hy⟩ := du.lstE
    exact ⟨p, q, xs, ys, rfl, rfl, g2.inn _ _ hs, g2.inn _ _ ht, by rw [DvAll.len hx, DvAll.len hy]; exact hl, fun l hl => k l _ _ _ ((g1.trans g2).trans (Grow.add g2.inn hl)) ((g1.trans g2).ext.free hl) upd_same (DvAll_mono (same_upd (g2.inn.free hl)) (hx.app hy))⟩⟩⟩
theorem sw_par2 (i j : Nat) {x y : Str} {px py pt : Pos} {kt k2 : Nat} {pt2 : Pos} (hc : X.calm = true) (nd : X.N.Nodup) (hij : i ≠ j) (ha : PD X a σ R d1) (hb : PD X b σ R d2)
    (q : ∀ v w R1, Same R R1 → Dv X.K R1 v d1 → Dv X.K R1 w d2 → SW X t n rest ((σ.set i (some v)).set j (some w)) R0 P R1 N T)
    (hw : swappedStores [.Tuple [.Name x px, .Name y py] kt pt] (.Tuple [a, b] k2 pt2) X.env = pure (some [x, y])) (hi : X.N[i]? = some x := by rfl) (hj : X.N[j]? = some y := by rfl)
    (hx : X.env.scope.names.lookup x = some .local := by rfl) (hy : X.env.scope.names.lookup y = some .local := by rfl)
    (hs : swapsWithSole [.Tuple [.Name x px, .Name y py] kt pt] (.Tuple [a, b] k2 pt2) pos.line X.env = pure false := by rfl) (he1 : starEach [a, b] X.env = (false, eval a X.env) :: starEach [b] X.env := by rfl) (he2 : starEach [b] X.env = (false, eval b X.env) :: starEach [] X.env := by rfl) :
    SW X t n (.Assign [.Tuple [.Name x px, .Name y py] kt pt] (.Tuple [a, b] k2 pt2) pos :: rest) σ R0 P R N T :=
  .of (pss_cons (ps_par hc nd hi hj hij hx hy (pa_cons pe_pd (pa_cons pe_pd pa_nil he2) he1) hw hs) pss_sw) fun H0 H D bx g sp kn kt => ⟨R, d1, g.inn.trans (hid_le t H), ha, fun v H' R' g' dv => ⟨R', d2, g'.inn, hb.mono g'.sub, fun w H2 R2 g2 dw => by
    obtain ⟨g1, b1⟩ := (g'.trans g2).box g.inn bx
    exact ⟨v, w, rfl, t, n, R0, P, R2, H0, N, T, b1, g.trans g1, sp.trans (g'.sub.trans g2.sub), q v w R2 (g'.sub.trans g2.sub) (Dv_mono g2.sub dv) dw, kn, kt⟩⟩⟩
/-- x = a + b, to be written -/
theorem sw_setFs (i : Nat) {x : Str} {pos' pc : Pos} (nd : X.N.Nodup) (ha : PD X a σ R (.list es)) (hb : PD X b σ R (.list fs)) (hl : es.length + fs.length ≤ sizeLine)
    (q : ∀ l xs R1, Same R R1 → R1 l = none → DvAll X.K R1 xs (es ++ fs) → R0 l = none → P l = none → SW X t n rest (σ.set i (some (.ref l))) R0 P (upd R1 l (.lst xs)) N T) (hi : X.N[i]? = some x := by rfl) (hx : Loc X.env.scope x := by first | exact Or.inl rfl | exact Or.inr rfl)
    (hs : swapsWith (.BinOp a .Add b pc) (some (.Name x pos')) pos.line X.env = pure false := by rfl) (hf : X.fn x = true ∨ X.env.scope.names.lookup x = some .local := by first | exact .inl rfl | exact .inr rfl) : SW X t n (.Assign [.Name x pos'] (.BinOp a .Add b pc) pos :: rest) σ R0 P R N T :=
  .of (pss_cons (ps_set nd hi hx (pe_op op_cat pe_pd pe_pd) hs hf) pss_sw) fun H0 H D bx g sp kn kt => ⟨R, _, g.inn.trans (hid_le t H), ha, fun v H1 R1 g1 dv => ⟨R1, _, g1.inn, hb.mono g1.sub, fun u H2 R2 g2 du => by
    obtain ⟨p, xs, rfl, hs, hx⟩ := (Dv_mono g2.sub dv).lstE
    obtain ⟨q', ys, rfl, ht, hy⟩ := du.lstE
    refine ⟨p, q', xs, ys, rfl, rfl, g2.inn _ _ hs, g2.inn _ _ ht, by rw [DvAll.len hx, DvAll.len hy]; exact hl, fun l hl => ?_⟩
    have rl2 : R2 l = none := g2.inn.free hl
    obtain ⟨g3, b3⟩ := ((g1.trans g2).trans (Grow.add (o := .lst (xs ++ ys)) g2.inn hl)).box g.inn bx
    have rl : R l = none := (g1.sub.trans g2.sub).free rl2
    exact ⟨t, n, R0, P, _, H0, N, T, b3, g.trans g3, sp.trans ((g1.sub.trans g2.sub).trans (same_upd rl2)), q l (xs ++ ys) R2 (g1.sub.trans g2.sub) rl2 (hx.app hy) (g.sub.free rl) (sp.free rl), kn, kt⟩⟩⟩
theorem over_list {K : PySem.W.Frag} {R2 : Hp} {l : Addr} {xs : List V} {o : HO} {v : V} {gs : List PyData} (h : Dv K R2 v (.list gs)) (hl : R2 l = some (.lst xs)) (hn : xs.length ≠ gs.length) (nl : noLs gs = true) : Dv K (upd R2 l o) v (.list gs) := by
  obtain ⟨p, ys, rfl, hp, hy⟩ := h.lstE
  have ne : p ≠ l := fun e => by
    rw [e, hl] at hp
    have e2 : xs = ys := by
      have := Option.some.inj hp
      exact HO.lst.inj this
    rw [e2, DvAll.len hy] at hn
    exact hn rfl
  exact .lst (by rw [upd_ne ne]; exact hp) (hy.over hl nl)
/-- x.clear() -/
theorem sw_clear {i l : Nat} {x : Str} {px pa pc : Pos} {xs : List V} (hσ : σ[i]? = some (some (.ref l))) (hl : R l = some (.lst xs)) (h0 : R0 l = none) (hP : P l = none) (q : SW X t n rest σ R0 P (upd R l (.lst [])) N T)
    (hN : X.N[i]? = some x := by rfl) (hv : Vis X.env.scope x := by first | exact Or.inl rfl | exact Or.inr (Or.inl rfl) | exact Or.inr (Or.inr rfl)) (hdb : (x == ("__debug__" : Str)) = false := by decide) (hcd : (x == ("__classdict__" : Str)) = false := by decide)
    (hbase : attributeBase (.Name x px) "clear" X.env (eval (.Name x px) X.env) = eval (.Name x px) X.env := by rfl) (hline : (pa.endLine == pc.line) = true := by rfl) (hsw : swapsWith (.Call (.Attribute (.Name x px) "clear" pa) [] [] pc) none pos.line X.env = pure false := by rfl) :
    SW X t n (.Expr (.Call (.Attribute (.Name x px) "clear" pa) [] [] pc) pos :: rest) σ R0 P R N T :=
  .of (pss_cons (ps_expr (pe_bm0 PySem.F.plainAttrs_list PySem.F.slot_list_clear PySem.F.type_list_clear mt_clear (pe_var hN hv hdb hcd) hbase hline) hsw) pss_sw) fun H0 H D bx g sp kn kt => by
    have rH := (g.inn.trans (hid_le t H)) _ _ hl
    obtain ⟨gp, nt⟩ := g.put (o' := .lst []) h0 hl
    exact ⟨.ref l, hσ, .inl ⟨rfl, xs, SqL.of rH⟩, l, xs, rfl, rfl, rH, t, n, R0, P, _, H0, N, T, bx.put nt, gp, same_put sp hP, q, kn, kt⟩
end
end NF

set_option Elab.async false
set_option linter.all false
set_option maxRecDepth 100000
namespace NF
open PySem PySem.Spec PyProof.Rows L2
theorem mem_ends_two {s u : Span} {x : Ver} : x ∈ ends [s, u] ↔ x ∈ endsS s ∨ x ∈ endsS u := by
  unfold ends
  simp
theorem cuts_swap (s u : Span) : cuts [u, s] = cuts [s, u] := settle_congr fun x => by
  rw [List.mem_cons, List.mem_cons, mem_ends_two, mem_ends_two]
  constructor
  · rintro (h | h | h)
    · exact .inl h
    · exact .inr (.inr h)
    · exact .inr (.inl h)
  · rintro (h | h | h)
    · exact .inl h
    · exact .inr (.inr h)
    · exact .inr (.inl h)
theorem swap_both (s u : Span) : byFlags [u, s] [[0, 1]] = byFlags [s, u] [[0, 1]] := by
  unfold byFlags
  rw [cuts_swap]
  congr 2
  funext p
  unfold nums numsFrom
  cases h1 : inn s p <;> cases h2 : inn u p <;> simp [h1, h2, numsFrom]
theorem swap_out (s u : Span) : byFlags [u, s] [[0]] = byFlags [s, u] [[1]] := by
  unfold byFlags
  rw [cuts_swap]
  congr 2
  funext p
  unfold nums numsFrom
  cases h1 : inn s p <;> cases h2 : inn u p <;> simp [h1, h2, numsFrom]
def parted (s u : Span) : Option Ver := ((cuts [s, u]).filter fun p => inn s p != inn u p).head?
theorem part_swap (s u : Span) : parted u s = parted s u := by
  unfold parted
  rw [cuts_swap]
  congr 2
  funext p
  cases inn s p <;> cases inn u p <;> rfl
theorem part_self (s : Span) : parted s s = none := by
  unfold parted
  have : (cuts [s, s]).filter (fun p => inn s p != inn s p) = [] := by
    rw [List.filter_eq_nil_iff]
    intro p _
    simp
  rw [this]
  rfl
theorem endsS_len : ∀ s : Span, (endsS s).length ≤ 2 * s.length
  | [] => Nat.le_refl _
  | p :: s => by
    have := endsS_len s
    unfold endsS at this ⊢
    rw [List.flatMap_cons, List.length_append, List.length_cons]
    have : (endsP p).length ≤ 2 := by
      unfold endsP
      cases p.2 <;> simp
    omega
theorem line_vok {v : Ver} (h : v ∈ line) : VOk v := by
  have := (line_ok v h).1
  exact ⟨fun e => (by rw [e] at this; cases this), by omega⟩
theorem ssOk_line : ∀ {ss : List Span}, (∀ s ∈ ss, (∀ v ∈ endsS s, v ∈ line) ∧ s.length ≤ 6) → ss.length ≤ 4 → SsOk ss := by
  intro ss h hl
  have key : ∀ ss : List Span, (∀ s ∈ ss, s.length ≤ 6) → (ends ss).length ≤ 12 * ss.length := by
    intro ss
    induction ss with
    | nil => intro _; exact Nat.le_refl _
    | cons s ss ih =>
      intro h
      have h1 := ih fun x hx => h x (List.mem_cons_of_mem _ hx)
      have h2 := endsS_len s
      have h3 := h s List.mem_cons_self
      have e : ends (s :: ss) = endsS s ++ ends ss := by unfold ends; rw [List.flatMap_cons]
      rw [e, List.length_append, List.length_cons]
      omega
  refine ⟨fun v hv => ?_, ?_, by omega⟩
  · obtain ⟨s, hs, hv⟩ := List.mem_flatMap.mp hv
    exact line_vok ((h s hs).1 v hv)
  · have := key ss fun s hs => (h s hs).2
    omega
theorem drawn_ok {ss : List Span} (h : ∀ s ∈ ss, Drawn s) (hl : ss.length ≤ 4) : SsOk ss := ssOk_line (fun s hs => ⟨(h s hs).on, (h s hs).few⟩) hl
theorem up_line {s : Span} (h : ∀ v ∈ endsS s, v ∈ line) : Up [s] := fun e he => by
  rw [ends_one] at he
  exact (line_ok e (h e he)).2
theorem ok_but {s : Span} (h : Drawn s) : SsOk [butOne s] := by
  have ok : SsOk [s] := drawn_ok (fun x hx => by rw [List.mem_singleton.mp hx]; exact h) (Nat.le_of_ble_eq_true rfl)
  have h1 := flags_len (ss := [s]) [[]]
  have h2 := endsS_len s
  have h3 := h.few
  have h4 := endsS_len (butOne s)
  rw [ends_one] at h1
  have h5 : (butOne s).length ≤ 1 + (endsS s).length := h1
  refine ⟨fun v hv => ?_, ?_, Nat.le_of_ble_eq_true rfl⟩
  · rw [ends_one] at hv
    obtain ⟨p, hp, hv⟩ := List.mem_flatMap.mp hv
    exact flags_pok ok [[]] p hp v hv
  · rw [ends_one]; omega
theorem fin_drawn {s : Span} (h : Drawn s) : fin 3 (encS s) = true := fin_encS (fun p hp v hv => line_vok (h.on v (List.mem_flatMap.mpr ⟨p, hp, hv⟩))) (by have := h.few; omega)
theorem atI_head (L : List Ver) : atI (L.map tupI ++ [.none]) 0 = some (encO L.head?) := by
  cases L with
  | nil => rfl
  | cons x L =>
    show atI (tupI x :: (L.map tupI ++ [.none])) 0 = _
    rw [atI_zero]
    rfl
theorem le_line {n : Nat} (h : Nat.ble n 1000 = true) : n ≤ sizeLine := Nat.le_trans (Nat.le_of_ble_eq_true h) (by decide)
end NF

set_option Elab.async false
set_option linter.all false
set_option maxRecDepth 100000
set_option maxHeartbeats 4000000
namespace NF
open PySem PySem.Spec PyProof.Rows L2
def hS0 : Span := [([1, 0, 0, 0], (some [2, 0, 0, -9]))]
def hS1 : Span := [([0, 3, 0, 0], (some [1, 4, 0, -9])), ([3, 0, 0, 0], none)]
def hS2 : Span := [([1, 0, 0, 0], (some [1, 4, 0, -9]))]
def hS3 : Span := [([0, 3, 0, 0], (some [2, 0, 0, -9])), ([3, 0, 0, 0], none)]
def hS4 : Span := [([0, 0, 0, -9], (some [1, 0, 0, 0])), ([2, 0, 0, -9], none)]
def hS5 : Span := [([0, 0, 0, -9], (some [0, 3, 0, 0])), ([1, 4, 0, -9], (some [3, 0, 0, 0]))]
def hS6 : Span := [([1, 4, 0, -9], (some [2, 0, 0, -9]))]
def hS7 : Span := [([0, 0, 0, -9], none)]
def hS8 : Span := [([1, 1, 0, 0], (some [1, 1, 1, -9]))]
def hS9 : Span := [([2, 0, 0, -9], none)]
def hS10 : Span := [([2, 0, 0, 0], none), ([1, 2, 0, 0], (some [2, 0, 0, 0])), ([9, 0, 0, 0], (some [9, 0, 0, 0]))]
def hS11 : Span := [([1, 2, 0, 0], none)]
def thingsD : List PyData := [.tuple [.tuple [.tuple [.int 1, .int 0, .int 0, .int 0], .tuple [.int 2, .int 0, .int 0, .int (-9)]]], .tuple [.tuple [.tuple [.int 1, .int 0, .int 0, .int 0], .tuple [.int 2, .int 0, .int 0, .int 0]], .tuple [.tuple [.int 2, .int 0, .int 0, .int 0], .none]], .tuple [], .tuple [.tuple [.tuple [.int 0, .int 0, .int 0, .int (-9)], .none], .tuple [.tuple [.int 1, .int 0, .int 0, .int 0], .none]]]
def handD : PyData := .list [.tuple [.tuple [.tuple [.int 1, .int 0, .int 0, .int 0], .tuple [.int 1, .int 4, .int 0, .int (-9)]]], .tuple [.tuple [.tuple [.int 0, .int 3, .int 0, .int 0], .tuple [.int 2, .int 0, .int 0, .int (-9)]], .tuple [.tuple [.int 3, .int 0, .int 0, .int 0], .none]], .tuple [.tuple [.tuple [.int 0, .int 0, .int 0, .int (-9)], .tuple [.int 1, .int 0, .int 0, .int 0]], .tuple [.tuple [.int 2, .int 0, .int 0, .int (-9)], .none]], .tuple [.tuple [.tuple [.int 0, .int 0, .int 0, .int (-9)], .tuple [.int 0, .int 3, .int 0, .int 0]], .tuple [.tuple [.int 1, .int 4, .int 0, .int (-9)], .tuple [.int 3, .int 0, .int 0, .int 0]]], .tuple [.tuple [.tuple [.int 1, .int 4, .int 0, .int (-9)], .tuple [.int 2, .int 0, .int 0, .int (-9)]]], .tuple [.tuple [.tuple [.int 0, .int 0, .int 0, .int (-9)], .none]], .tuple [], .bool true, .bool false, .bool true, .bool true, .tuple [.int 0, .int 3, .int 0, .int 0], .tuple [.int 0, .int 3, .int 0, .int 0], .none, .tuple [.int 0, .int 0, .int 0, .int (-9)], .list [.tuple [.int 0, .int 0, .int 0, .int (-9)], .tuple [.int 0, .int 3, .int 0, .int 0], .tuple [.int 1, .int 0, .int 0, .int 0], .tuple [.int 1, .int 4, .int 0, .int (-9)], .tuple [.int 2, .int 0, .int 0, .int (-9)], .tuple [.int 3, .int 0, .int 0, .int 0]], .list [.tuple [.tuple [.int 0, .int 3, .int 0, .int 0], .tuple [.int 1, .int 0, .int 0, .int 0], .tuple [.int 1]], .tuple [.tuple [.int 1, .int 0, .int 0, .int 0], .tuple [.int 1, .int 4, .int 0, .int (-9)], .tuple [.int 0, .int 1]], .tuple [.tuple [.int 1, .int 4, .int 0, .int (-9)], .tuple [.int 2, .int 0, .int 0, .int (-9)], .tuple [.int 0]]], .list [.tuple [.int 0, .int 0, .int 0, .int (-9)]], .list [.tuple [.tuple [.int 0, .int 0, .int 0, .int (-9)], .none, .tuple []]], .list [.tuple [.tuple [.int 0, .int 0, .int 0, .int (-9)], .none, .tuple [.int 0]]], .tuple [.tuple [.tuple [.int 1, .int 2, .int 0, .int 0], .none]], .tuple [], .tuple [.tuple [.tuple [.int 0, .int 0, .int 0, .int (-9)], .tuple [.int 0, .int 3, .int 0, .int 0]], .tuple [.tuple [.int 1, .int 4, .int 0, .int (-9)], .tuple [.int 3, .int 0, .int 0, .int 0]]], .tuple [], .tuple [], .bool true, .bool false, .bool true, .bool false, .tuple [.tuple [.tuple [.int 1, .int 4, .int 0, .int (-9)], .tuple [.int 2, .int 0, .int 0, .int (-9)]]], .tuple [.tuple [.tuple [.int 1, .int 4, .int 0, .int (-9)], .tuple [.int 2, .int 0, .int 0, .int (-9)]]], .tuple [.tuple [.tuple [.int 0, .int 0, .int 0, .int (-9)], .none]], .tuple [.tuple [.tuple [.int 0, .int 0, .int 0, .int (-9)], .none]]]
theorem bh_0 : byFlags [hS0, hS1] [[0, 1]] = hS2 := by decide +kernel
theorem bhok_0 : SsOk ([hS0, hS1] : List Span) := ssOk_by (by decide +kernel)
theorem bh_1 : byFlags [hS0, hS1] [[0], [1], [0, 1]] = hS3 := by decide +kernel
theorem bh_2 : byFlags [hS0] [[]] = hS4 := by decide +kernel
theorem bhok_1 : SsOk ([hS0] : List Span) := ssOk_by (by decide +kernel)
theorem bh_3 : byFlags [hS1] [[]] = hS5 := by decide +kernel
theorem bhok_2 : SsOk ([hS1] : List Span) := ssOk_by (by decide +kernel)
theorem bh_4 : byFlags [hS0, hS1] [[0]] = hS6 := by decide +kernel
theorem bh_5 : byFlags [([] : Span)] [[]] = hS7 := by decide +kernel
theorem bhok_3 : SsOk ([([] : Span)] : List Span) := ssOk_by (by decide +kernel)
theorem bh_6 : byFlags [hS7] [[]] = ([] : Span) := by decide +kernel
theorem bhok_4 : SsOk ([hS7] : List Span) := ssOk_by (by decide +kernel)
theorem bh_7 : (byFlags [hS8, hS0] [[0]]).isEmpty = true := by decide +kernel
theorem bhok_5 : SsOk ([hS8, hS0] : List Span) := ssOk_by (by decide +kernel)
theorem bh_8 : (byFlags [hS0, hS1] [[0]]).isEmpty = false := by decide +kernel
theorem bh_9 : (byFlags [([] : Span), ([] : Span)] [[0]]).isEmpty = true := by decide +kernel
theorem bhok_6 : SsOk ([([] : Span), ([] : Span)] : List Span) := ssOk_by (by decide +kernel)
theorem bh_10 : (byFlags [hS0, hS9] [[0, 1]]).isEmpty = true := by decide +kernel
theorem bhok_7 : SsOk ([hS0, hS9] : List Span) := ssOk_by (by decide +kernel)
theorem bh_11 : (byFlags [hS0, hS1] [[0], [1]]).head?.map (·.1) = (some [0, 3, 0, 0]) := by decide +kernel
theorem bh_12 : (byFlags [hS1, hS0] [[0], [1]]).head?.map (·.1) = (some [0, 3, 0, 0]) := by decide +kernel
theorem bhok_8 : SsOk ([hS1, hS0] : List Span) := ssOk_by (by decide +kernel)
theorem bh_13 : (byFlags [hS0, hS0] [[0], [1]]).head?.map (·.1) = none := by decide +kernel
theorem bhok_9 : SsOk ([hS0, hS0] : List Span) := ssOk_by (by decide +kernel)
theorem bh_14 : (byFlags [([] : Span), hS7] [[0], [1]]).head?.map (·.1) = (some [0, 0, 0, -9]) := by decide +kernel
theorem bhok_10 : SsOk ([([] : Span), hS7] : List Span) := ssOk_by (by decide +kernel)
theorem bh_15 : cuts ([hS0, hS1] : List Span) = [[0, 0, 0, -9], [0, 3, 0, 0], [1, 0, 0, 0], [1, 4, 0, -9], [2, 0, 0, -9], [3, 0, 0, 0]] := by decide +kernel
theorem bh_16 : grains ([hS0, hS1] : List Span) = [([0, 0, 0, -9], (some [0, 3, 0, 0]), []), ([0, 3, 0, 0], (some [1, 0, 0, 0]), [1]), ([1, 0, 0, 0], (some [1, 4, 0, -9]), [0, 1]), ([1, 4, 0, -9], (some [2, 0, 0, -9]), [0]), ([2, 0, 0, -9], (some [3, 0, 0, 0]), []), ([3, 0, 0, 0], none, [1])] := by decide +kernel
theorem bh_17 : cuts ([] : List Span) = [[0, 0, 0, -9]] := by decide +kernel
theorem bhok_11 : SsOk ([] : List Span) := ssOk_by (by decide +kernel)
theorem bh_18 : grains ([] : List Span) = [([0, 0, 0, -9], none, [])] := by decide +kernel
theorem bh_19 : grains ([hS7, ([] : Span)] : List Span) = [([0, 0, 0, -9], none, [0])] := by decide +kernel
theorem bhok_12 : SsOk ([hS7, ([] : Span)] : List Span) := ssOk_by (by decide +kernel)
theorem bh_20 : rangeOf hS10 = hS11 := by decide +kernel
theorem bhok_13 : SsOk ([hS10] : List Span) := ssOk_by (by decide +kernel)
theorem bh_21 : rangeOf ([] : Span) = ([] : Span) := by decide +kernel
theorem bh_22 : byFlags ([hS0, hS1] : List Span) ([[], [0]] : List Row) = hS5 := by decide +kernel
theorem bh_23 : byFlags ([hS0, hS1] : List Span) ([] : List Row) = ([] : Span) := by decide +kernel
theorem bh_24 : byFlags ([hS0, hS0] : List Span) ([[0], [1]] : List Row) = ([] : Span) := by decide +kernel
theorem len_things : thingsD.length ≤ sizeLine := by decide +kernel
theorem fin_things : ∀ d ∈ thingsD, fin 8 d = true := List.all_eq_true.mp (by decide +kernel)
theorem things_bools : thingsD.map rangeM = [true, false, true, false] := by decide +kernel
theorem things_eq : thingsD.filterMap (fun d => some (PyData.bool (rangeM d))) = ([true, false, true, false] : List Bool).map .bool := by
  rw [filterMap_some (fun d => PyData.bool (rangeM d)), ← things_bools, List.map_map]
  rfl
theorem bh_25 : byFlags ([hS0, hS1] : List Span) ([[0], [0]] : List Row) = hS6 := by decide +kernel
theorem bh_26 : byFlags ([hS0, hS1] : List Span) ([[0, 7], [0]] : List Row) = hS6 := by decide +kernel
theorem bh_27 : byFlags ([] : List Span) ([[]] : List Row) = hS7 := by decide +kernel
theorem bh_28 : byFlags ([] : List Span) ([[0], []] : List Row) = hS7 := by decide +kernel
theorem fin_hand : fin 8 handD = true := by decide +kernel
theorem bh_29 : byFlags ([hS0, hS1] : List Span) ([[0]] : List Row) = hS6 := by decide +kernel
section
variable {P : Program} {w : World} {K : PySem.W.Frag} {mg : Str → Option Value} {base : Heap}
def pre_hand : List PyData → PyData → Prop := fun ds d => ds = [] ∧ d = .bool true
theorem df_hand (F : At K mg "_law_by_hand_right" s_law_by_hand_right []) (B : Blt mg) (F_both_of : Df P w K mg base 8 "both_of" ["one", "other"] (spD K pre_both_of)) (F_either_of : Df P w K mg base 8 "either_of" ["one", "other"] (spD K pre_either_of)) (F_all_but : Df P w K mg base 8 "all_but" ["span"] (spD K pre_all_but)) (F_taken_out : Df P w K mg base 8 "taken_out" ["one", "other"] (spD K pre_taken_out)) (F_is_inside : Df P w K mg base 9 "is_inside" ["one", "other"] (spD K pre_is_inside)) (F_are_apart : Df P w K mg base 9 "are_apart" ["one", "other"] (spD K pre_are_apart)) (F_parting_version : Df P w K mg base 8 "parting_version" ["one", "other"] (spD K pre_parting)) (F_range_cuts : Df P w K mg base 6 "range_cuts" ["spans"] (spD K preRCuts)) (F_range_grains : Df P w K mg base 6 "range_grains" ["spans"] (spD K preRGr)) (F_range_of : Df P w K mg base 8 "range_of" ["pairs"] (spD K preRangeOf)) (F_by_rows : Df P w K mg base 7 "by_rows" ["spans", "rows"] (spD K preRows)) (F_is_range : Df P w K mg base 4 "is_range" ["thing"] (spD K preRange)) (F_every : Df P w K mg base 1 "_law_every" [] (spD K pre_every)) (F_same : Df P w K mg base 9 "_law_same" ["_law_got", "_law_due"] (spD K (preSame 8))) :
    Df P w K mg base 10 "_law_by_hand_right" [] (spD K pre_hand) := by
  refine df_sp F c_law_by_hand_right (fun vs H Q E h => ?_) fun f cdv A outer s H E vs Q hr h => ?_
  · obtain ⟨R, ds, d, sb, dv, ⟨rfl, _⟩, _⟩ := h
    cases dv
    rfl
  · obtain ⟨R, ds, d, sb, dv, ⟨rfl, rfl⟩, k⟩ := h
    cases dv
    have e0 : Same (fun _ => none : Hp) H := fun _ _ e => nomatch e
    suffices body : SW (dcx P w K mg base n_law_by_hand_right "_law_by_hand_right" (defScope s_law_by_hand_right) f cdv A outer s H E) none 0 (defBody s_law_by_hand_right) (start n_law_by_hand_right []) (fun _ => none) (fun _ => none) (fun _ => none) (fun _ _ _ => False) (fun _ d => d = .bool true) from
      ⟨_, pss_sw, none, 0, fun _ => none, fun _ => none, fun _ => none, H, _, _, trivial, Grow.refl e0, Same.refl _, body, fun _ _ _ _ _ _ _ z => z.elim, fun v H' R' m e _ g dv' z => by
        subst z
        obtain ⟨g1, s1⟩ := g.wide (fun _ _ e => nomatch e) sb
        exact k v H' _ g1 (Dv_mono s1 dv')⟩
    refine sw_two 0 1 rfl c_law_by_hand_right.nd (W := fun m d => d = .tuple [encS hS0, encS hS1]) (ew_pd (pd_tup (pds_cons (pd_tup (pds_one (pd_tup (pds_cons (pd_tup (pds_cons pd_int (pds_cons pd_int (pds_cons pd_int (pds_one pd_int))))) (pds_one (pd_tup (pds_cons pd_int (pds_cons pd_int (pds_cons pd_int (pds_one (pd_neg pd_int))))))))))) (pds_one (pd_tup (pds_cons (pd_tup (pds_cons (pd_tup (pds_cons pd_int (pds_cons pd_int (pds_cons pd_int (pds_one pd_int))))) (pds_one (pd_tup (pds_cons pd_int (pds_cons pd_int (pds_cons pd_int (pds_one (pd_neg pd_int))))))))) (pds_one (pd_tup (pds_cons (pd_tup (pds_cons pd_int (pds_cons pd_int (pds_cons pd_int (pds_one pd_int))))) (pds_one pd_non))))))))) rfl) (fun m d e => ⟨_, _, e⟩) (fun v0 v1 R1 m1 d1 d2 s1 h0 h1 ew => ?_) rfl
    have e12 := PyData.tuple.inj ew
    have e1 := (List.cons.inj e12).1
    have e2 := (List.cons.inj (List.cons.inj e12).2).1
    subst e1
    subst e2
    refine sw_sig (σ2 := [some v0, some v1, none, none, none, none, none, none, none, none, none, none]) ?_ rfl
    refine sw_par 2 3 rfl c_law_by_hand_right.nd (by decide) (Wl := fun m ds => ds = [tupI first, encS [(first, none)]]) (ews_cons (W := fun m d => d = tupI first) (Ws2 := fun m d k ds => ds = [encS [(first, none)]]) (ew_pd (pd_tup (pds_cons pd_int (pds_cons pd_int (pds_cons pd_int (pds_one (pd_neg pd_int)))))) rfl) (fun m d _ => ews_one (W := fun m d => d = encS [(first, none)]) (ew_pd (pd_call0 F_every (hr.mono (by decide)) ⟨rfl, rfl⟩) rfl) fun m d e => by rw [e]) (fun m d k ds e e' => by rw [e, e'])) (fun v2 v3 R2 m2 ds s2 dvs ew => ?_) (fun m ds e => by rw [e]; rfl) rfl
    subst ew
    obtain ⟨h2, h3⟩ := dva_two dvs
    refine sw_sig (σ2 := [some v0, some v1, some v2, some v3, none, none, none, none, none, none, none, none]) ?_ rfl
    have h0' := Dv_mono s2 h0
    have h1' := Dv_mono s2 h1
    refine sw_setD 4 c_law_by_hand_right.nd (pd_lst (pds_cons (PD.eq (pd_call F_both_of (hr.mono (by decide)) (pds_cons (pd_var 0 rfl h0') (pds_one (pd_var 1 rfl h1'))) ⟨encS hS0, encS hS1, hS0, hS1, rfl, by decide +kernel, tupM_noL _ (noL_encS _), by decide +kernel, tupM_noL _ (noL_encS _), bhok_0, rfl⟩) (congrArg encS bh_0)) (pds_cons (PD.eq (pd_call F_either_of (hr.mono (by decide)) (pds_cons (pd_var 0 rfl h0') (pds_one (pd_var 1 rfl h1'))) ⟨encS hS0, encS hS1, hS0, hS1, rfl, by decide +kernel, tupM_noL _ (noL_encS _), by decide +kernel, tupM_noL _ (noL_encS _), bhok_0, rfl⟩) (congrArg encS bh_1)) (pds_cons (PD.eq (pd_call F_all_but (hr.mono (by decide)) (pds_one (pd_var 0 rfl h0')) ⟨encS hS0, hS0, rfl, by decide +kernel, tupM_noL _ (noL_encS _), bhok_1, rfl⟩) (congrArg encS bh_2)) (pds_cons (PD.eq (pd_call F_all_but (hr.mono (by decide)) (pds_one (pd_var 1 rfl h1')) ⟨encS hS1, hS1, rfl, by decide +kernel, tupM_noL _ (noL_encS _), bhok_2, rfl⟩) (congrArg encS bh_3)) (pds_cons (PD.eq (pd_call F_taken_out (hr.mono (by decide)) (pds_cons (pd_var 0 rfl h0') (pds_one (pd_var 1 rfl h1'))) ⟨encS hS0, encS hS1, hS0, hS1, rfl, by decide +kernel, tupM_noL _ (noL_encS _), by decide +kernel, tupM_noL _ (noL_encS _), bhok_0, rfl⟩) (congrArg encS bh_4)) (pds_cons (PD.eq (pd_call F_all_but (hr.mono (by decide)) (pds_one (pd_tup pds_nil)) ⟨encS ([] : Span), ([] : Span), rfl, by decide +kernel, tupM_noL _ (noL_encS _), bhok_3, rfl⟩) (congrArg encS bh_5)) (pds_one (PD.eq (pd_call F_all_but (hr.mono (by decide)) (pds_one (pd_var 3 rfl h3)) ⟨encS hS7, hS7, rfl, by decide +kernel, tupM_noL _ (noL_encS _), bhok_4, rfl⟩) (congrArg encS bh_6)))))))))) fun v3_ R3 s3 h3_ => ?_
    refine sw_sig (σ2 := [some v0, some v1, some v2, some v3, some v3_, none, none, none, none, none, none, none]) ?_ rfl
    have h0'' := Dv_mono s3 h0'
    have h1'' := Dv_mono s3 h1'
    have h2' := Dv_mono s3 h2
    have h3' := Dv_mono s3 h3
    refine sw_setD 5 c_law_by_hand_right.nd (pd_lst (pds_cons (pd_tup (pds_one (pd_tup (pds_cons (pd_tup (pds_cons pd_int (pds_cons pd_int (pds_cons pd_int (pds_one pd_int))))) (pds_one (pd_tup (pds_cons pd_int (pds_cons pd_int (pds_cons pd_int (pds_one (pd_neg pd_int))))))))))) (pds_one (pd_tup (pds_cons (pd_tup (pds_cons (pd_tup (pds_cons pd_int (pds_cons pd_int (pds_cons pd_int (pds_one pd_int))))) (pds_one (pd_tup (pds_cons pd_int (pds_cons pd_int (pds_cons pd_int (pds_one (pd_neg pd_int))))))))) (pds_one (pd_tup (pds_cons (pd_tup (pds_cons pd_int (pds_cons pd_int (pds_cons pd_int (pds_one pd_int))))) (pds_one pd_non))))))))) fun v4_ R4 s4 h4_ => ?_
    refine sw_sig (σ2 := [some v0, some v1, some v2, some v3, some v3_, some v4_, none, none, none, none, none, none]) ?_ rfl
    have h0''' := Dv_mono s4 h0''
    have h1''' := Dv_mono s4 h1''
    have h2'' := Dv_mono s4 h2'
    have h3'' := Dv_mono s4 h3'
    have h3_' := Dv_mono s4 h3_
    refine sw_setD 5 c_law_by_hand_right.nd (pd_cat (pd_var 5 rfl h4_) (pd_lst (pds_cons (pd_tup (pds_cons (pd_tup (pds_cons (pd_var 2 rfl h2'') (pds_one (pd_tup (pds_cons pd_int (pds_cons pd_int (pds_cons pd_int (pds_one pd_int)))))))) (pds_one (pd_tup (pds_cons (pd_tup (pds_cons pd_int (pds_cons pd_int (pds_cons pd_int (pds_one (pd_neg pd_int)))))) (pds_one pd_non)))))) (pds_one (pd_tup (pds_cons (pd_tup (pds_cons (pd_var 2 rfl h2'') (pds_one (pd_tup (pds_cons pd_int (pds_cons pd_int (pds_cons pd_int (pds_one pd_int)))))))) (pds_one (pd_tup (pds_cons (pd_tup (pds_cons pd_int (pds_cons pd_int (pds_cons pd_int (pds_one (pd_neg pd_int)))))) (pds_one (pd_tup (pds_cons pd_int (pds_cons pd_int (pds_cons pd_int (pds_one pd_int)))))))))))))) (by decide +kernel)) fun v5_ R5 s5 h5_ => ?_
    refine sw_sig (σ2 := [some v0, some v1, some v2, some v3, some v3_, some v5_, none, none, none, none, none, none]) ?_ rfl
    have h0'''' := Dv_mono s5 h0'''
    have h1'''' := Dv_mono s5 h1'''
    have h2''' := Dv_mono s5 h2''
    have h3''' := Dv_mono s5 h3''
    have h3_'' := Dv_mono s5 h3_'
    refine sw_setD 5 c_law_by_hand_right.nd (pd_cat (pd_var 5 rfl h5_) (pd_lst (pds_cons (pd_tup (pds_one (pd_tup (pds_cons (pd_tup (pds_cons pd_int (pds_cons pd_int (pds_cons pd_int (pds_one (pd_neg pd_int)))))) (pds_one (pd_tup (pds_cons pd_int (pds_cons pd_int (pds_cons pd_int (pds_one (pd_neg pd_int))))))))))) (pds_cons (pd_var 3 rfl h3''') (pds_one (pd_tup pds_nil))))) (by decide +kernel)) fun v6_ R6 s6 h6_ => ?_
    refine sw_sig (σ2 := [some v0, some v1, some v2, some v3, some v3_, some v6_, none, none, none, none, none, none]) ?_ rfl
    have h0''''' := Dv_mono s6 h0''''
    have h1''''' := Dv_mono s6 h1''''
    have h2'''' := Dv_mono s6 h2'''
    have h3'''' := Dv_mono s6 h3'''
    have h3_''' := Dv_mono s6 h3_''
    refine sw_setD 4 c_law_by_hand_right.nd (pd_cat (pd_var 4 rfl h3_''') (pd_lst (pds_cons (PD.eq (pd_call F_is_inside (hr.mono (by decide)) (pds_cons (pd_tup (pds_one (pd_tup (pds_cons (pd_tup (pds_cons pd_int (pds_cons pd_int (pds_cons pd_int (pds_one pd_int))))) (pds_one (pd_tup (pds_cons pd_int (pds_cons pd_int (pds_cons pd_int (pds_one (pd_neg pd_int))))))))))) (pds_one (pd_var 0 rfl h0'''''))) ⟨encS hS8, encS hS0, hS8, hS0, rfl, by decide +kernel, tupM_noL _ (noL_encS _), by decide +kernel, tupM_noL _ (noL_encS _), bhok_5, rfl⟩) (congrArg PyData.bool bh_7)) (pds_cons (PD.eq (pd_call F_is_inside (hr.mono (by decide)) (pds_cons (pd_var 0 rfl h0''''') (pds_one (pd_var 1 rfl h1'''''))) ⟨encS hS0, encS hS1, hS0, hS1, rfl, by decide +kernel, tupM_noL _ (noL_encS _), by decide +kernel, tupM_noL _ (noL_encS _), bhok_0, rfl⟩) (congrArg PyData.bool bh_8)) (pds_cons (PD.eq (pd_call F_is_inside (hr.mono (by decide)) (pds_cons (pd_tup pds_nil) (pds_one (pd_tup pds_nil))) ⟨encS ([] : Span), encS ([] : Span), ([] : Span), ([] : Span), rfl, by decide +kernel, tupM_noL _ (noL_encS _), by decide +kernel, tupM_noL _ (noL_encS _), bhok_6, rfl⟩) (congrArg PyData.bool bh_9)) (pds_one (PD.eq (pd_call F_are_apart (hr.mono (by decide)) (pds_cons (pd_var 0 rfl h0''''') (pds_one (pd_tup (pds_one (pd_tup (pds_cons (pd_tup (pds_cons pd_int (pds_cons pd_int (pds_cons pd_int (pds_one (pd_neg pd_int)))))) (pds_one pd_non))))))) ⟨encS hS0, encS hS9, hS0, hS9, rfl, by decide +kernel, tupM_noL _ (noL_encS _), by decide +kernel, tupM_noL _ (noL_encS _), bhok_7, rfl⟩) (congrArg PyData.bool bh_10))))))) (by decide +kernel)) fun v7_ R7 s7 h7_ => ?_
    refine sw_sig (σ2 := [some v0, some v1, some v2, some v3, some v7_, some v6_, none, none, none, none, none, none]) ?_ rfl
    have h0'''''' := Dv_mono s7 h0'''''
    have h1'''''' := Dv_mono s7 h1'''''
    have h2''''' := Dv_mono s7 h2''''
    have h3''''' := Dv_mono s7 h3''''
    have h6_' := Dv_mono s7 h6_
    refine sw_setD 4 c_law_by_hand_right.nd (pd_cat (pd_var 4 rfl h7_) (pd_lst (pds_cons (PD.eq (pd_call F_parting_version (hr.mono (by decide)) (pds_cons (pd_var 0 rfl h0'''''') (pds_one (pd_var 1 rfl h1''''''))) ⟨encS hS0, encS hS1, hS0, hS1, rfl, by decide +kernel, tupM_noL _ (noL_encS _), by decide +kernel, tupM_noL _ (noL_encS _), bhok_0, rfl⟩) (congrArg encO bh_11)) (pds_cons (PD.eq (pd_call F_parting_version (hr.mono (by decide)) (pds_cons (pd_var 1 rfl h1'''''') (pds_one (pd_var 0 rfl h0''''''))) ⟨encS hS1, encS hS0, hS1, hS0, rfl, by decide +kernel, tupM_noL _ (noL_encS _), by decide +kernel, tupM_noL _ (noL_encS _), bhok_8, rfl⟩) (congrArg encO bh_12)) (pds_cons (PD.eq (pd_call F_parting_version (hr.mono (by decide)) (pds_cons (pd_var 0 rfl h0'''''') (pds_one (pd_var 0 rfl h0''''''))) ⟨encS hS0, encS hS0, hS0, hS0, rfl, by decide +kernel, tupM_noL _ (noL_encS _), by decide +kernel, tupM_noL _ (noL_encS _), bhok_9, rfl⟩) (congrArg encO bh_13)) (pds_one (PD.eq (pd_call F_parting_version (hr.mono (by decide)) (pds_cons (pd_tup pds_nil) (pds_one (pd_var 3 rfl h3'''''))) ⟨encS ([] : Span), encS hS7, ([] : Span), hS7, rfl, by decide +kernel, tupM_noL _ (noL_encS _), by decide +kernel, tupM_noL _ (noL_encS _), bhok_10, rfl⟩) (congrArg encO bh_14))))))) (by decide +kernel)) fun v8_ R8 s8 h8_ => ?_
    refine sw_sig (σ2 := [some v0, some v1, some v2, some v3, some v8_, some v6_, none, none, none, none, none, none]) ?_ rfl
    have h0''''''' := Dv_mono s8 h0''''''
    have h1''''''' := Dv_mono s8 h1''''''
    have h2'''''' := Dv_mono s8 h2'''''
    have h3'''''' := Dv_mono s8 h3'''''
    have h6_'' := Dv_mono s8 h6_'
    refine sw_setD 5 c_law_by_hand_right.nd (pd_cat (pd_var 5 rfl h6_'') (pd_lst (pds_cons pd_bool (pds_cons pd_bool (pds_cons pd_bool (pds_cons pd_bool (pds_cons (pd_tup (pds_cons pd_int (pds_cons pd_int (pds_cons pd_int (pds_one pd_int))))) (pds_cons (pd_tup (pds_cons pd_int (pds_cons pd_int (pds_cons pd_int (pds_one pd_int))))) (pds_cons pd_non (pds_one (pd_var 2 rfl h2'''''')))))))))) (by decide +kernel)) fun v9_ R9 s9 h9_ => ?_
    refine sw_sig (σ2 := [some v0, some v1, some v2, some v3, some v8_, some v9_, none, none, none, none, none, none]) ?_ rfl
    have h0'''''''' := Dv_mono s9 h0'''''''
    have h1'''''''' := Dv_mono s9 h1'''''''
    have h2''''''' := Dv_mono s9 h2''''''
    have h3''''''' := Dv_mono s9 h3''''''
    have h8_' := Dv_mono s9 h8_
    refine sw_setD 4 c_law_by_hand_right.nd (pd_cat (pd_var 4 rfl h8_') (pd_lst (pds_cons (PD.eq (pd_call F_range_cuts (hr.mono (by decide)) (pds_one (pd_tup (pds_cons (pd_var 0 rfl h0'''''''') (pds_one (pd_var 1 rfl h1''''''''))))) ⟨encSs ([hS0, hS1] : List Span), ([hS0, hS1] : List Span), rfl, by decide +kernel, tupM_noL _ (noL_encSs _), bhok_0, rfl⟩) (congrArg (fun c : List Ver => PyData.list (c.map tupI)) bh_15)) (pds_cons (PD.eq (d1 := .list (([([0, 3, 0, 0], (some [1, 0, 0, 0]), [1]), ([1, 0, 0, 0], (some [1, 4, 0, -9]), [0, 1]), ([1, 4, 0, -9], (some [2, 0, 0, -9]), [0])] : List Gr).map encG)) (pd_sliceL (PD.eq (pd_call F_range_grains (hr.mono (by decide)) (pds_one (pd_tup (pds_cons (pd_var 0 rfl h0'''''''') (pds_one (pd_var 1 rfl h1''''''''))))) ⟨encSs ([hS0, hS1] : List Span), ([hS0, hS1] : List Span), rfl, by decide +kernel, tupM_noL _ (noL_encSs _), bhok_0, rfl⟩) (congrArg (fun c : List Gr => PyData.list (c.map encG)) bh_16)) (pod_some pd_int) (pod_some pd_int)) rfl) (pds_cons (PD.eq (pd_call F_range_cuts (hr.mono (by decide)) (pds_one (pd_tup pds_nil)) ⟨encSs ([] : List Span), ([] : List Span), rfl, by decide +kernel, tupM_noL _ (noL_encSs _), bhok_11, rfl⟩) (congrArg (fun c : List Ver => PyData.list (c.map tupI)) bh_17)) (pds_cons (PD.eq (pd_call F_range_grains (hr.mono (by decide)) (pds_one (pd_tup pds_nil)) ⟨encSs ([] : List Span), ([] : List Span), rfl, by decide +kernel, tupM_noL _ (noL_encSs _), bhok_11, rfl⟩) (congrArg (fun c : List Gr => PyData.list (c.map encG)) bh_18)) (pds_one (PD.eq (pd_call F_range_grains (hr.mono (by decide)) (pds_one (pd_tup (pds_cons (pd_var 3 rfl h3''''''') (pds_one (pd_tup pds_nil))))) ⟨encSs ([hS7, ([] : Span)] : List Span), ([hS7, ([] : Span)] : List Span), rfl, by decide +kernel, tupM_noL _ (noL_encSs _), bhok_12, rfl⟩) (congrArg (fun c : List Gr => PyData.list (c.map encG)) bh_19)))))))) (by decide +kernel)) fun v10_ R10 s10 h10_ => ?_
    refine sw_sig (σ2 := [some v0, some v1, some v2, some v3, some v10_, some v9_, none, none, none, none, none, none]) ?_ rfl
    have h0''''''''' := Dv_mono s10 h0''''''''
    have h1''''''''' := Dv_mono s10 h1''''''''
    have h2'''''''' := Dv_mono s10 h2'''''''
    have h3'''''''' := Dv_mono s10 h3'''''''
    have h9_' := Dv_mono s10 h9_
    refine sw_setFs 5 c_law_by_hand_right.nd (pd_var 5 rfl h9_') (pd_lst (pds_one (pd_lst (pds_cons (pd_var 2 rfl h2'''''''') (pds_cons (pd_tup (pds_cons pd_int (pds_cons pd_int (pds_cons pd_int (pds_one pd_int))))) (pds_cons (pd_tup (pds_cons pd_int (pds_cons pd_int (pds_cons pd_int (pds_one pd_int))))) (pds_cons (pd_tup (pds_cons pd_int (pds_cons pd_int (pds_cons pd_int (pds_one (pd_neg pd_int)))))) (pds_cons (pd_tup (pds_cons pd_int (pds_cons pd_int (pds_cons pd_int (pds_one (pd_neg pd_int)))))) (pds_one (pd_tup (pds_cons pd_int (pds_cons pd_int (pds_cons pd_int (pds_one pd_int)))))))))))))) (by decide +kernel) fun l11 xs11 R11 s11 nl11 x11 n0_11 nP_11 => ?_
    refine sw_sig (σ2 := [some v0, some v1, some v2, some v3, some v10_, some (V.ref l11), none, none, none, none, none, none]) ?_ rfl
    refine sw_app (i := 5) (W := fun m d => d = .list (([([0, 3, 0, 0], (some [1, 0, 0, 0]), [1]), ([1, 0, 0, 0], (some [1, 4, 0, -9]), [0, 1]), ([1, 4, 0, -9], (some [2, 0, 0, -9]), [0])] : List Gr).map encG)) rfl (upd_same (o := .lst xs11)) n0_11 nP_11 (by rw [DvAll.len x11]; decide +kernel) (ew_pd (pd_lst (pds_cons (pd_tup (pds_cons (pd_tup (pds_cons pd_int (pds_cons pd_int (pds_cons pd_int (pds_one pd_int))))) (pds_cons (pd_tup (pds_cons pd_int (pds_cons pd_int (pds_cons pd_int (pds_one pd_int))))) (pds_one (pd_tup (pds_one pd_int)))))) (pds_cons (pd_tup (pds_cons (pd_tup (pds_cons pd_int (pds_cons pd_int (pds_cons pd_int (pds_one pd_int))))) (pds_cons (pd_tup (pds_cons pd_int (pds_cons pd_int (pds_cons pd_int (pds_one (pd_neg pd_int)))))) (pds_one (pd_tup (pds_cons pd_int (pds_one pd_int))))))) (pds_one (pd_tup (pds_cons (pd_tup (pds_cons pd_int (pds_cons pd_int (pds_cons pd_int (pds_one (pd_neg pd_int)))))) (pds_cons (pd_tup (pds_cons pd_int (pds_cons pd_int (pds_cons pd_int (pds_one (pd_neg pd_int)))))) (pds_one (pd_tup (pds_one pd_int)))))))))) rfl) fun v12_ R12 m12 d12 s12 h12_ e12 r12 => ?_
    subst e12
    have w12 := same_put (o := .lst (xs11 ++ [v12_])) ((same_upd nl11).trans s12) nl11
    have g12_a := Dv_mono (s11.trans w12) h0'''''''''
    have g12_b := Dv_mono (s11.trans w12) h1'''''''''
    have g12_first := Dv_mono (s11.trans w12) h2''''''''
    have g12_every_here := Dv_mono (s11.trans w12) h3''''''''
    have g12_got := Dv_mono (s11.trans w12) h10_
    have h12_d := Dv.lst (K := K) upd_same ((DvAll_mono w12 x11).app (.cons (over_list (o := .lst (xs11 ++ [v12_])) h12_ r12 (by rw [DvAll.len x11]; decide +kernel) (by decide +kernel)) .nil))
    refine sw_setD 5 c_law_by_hand_right.nd (pd_cat (pd_var 5 rfl h12_d) (pd_lst (pds_cons (pd_lst (pds_one (pd_var 2 rfl g12_first))) (pds_cons (pd_lst (pds_one (pd_tup (pds_cons (pd_var 2 rfl g12_first) (pds_cons pd_non (pds_one (pd_tup pds_nil))))))) (pds_one (pd_lst (pds_one (pd_tup (pds_cons (pd_var 2 rfl g12_first) (pds_cons pd_non (pds_one (pd_tup (pds_one pd_int)))))))))))) (by decide +kernel)) fun v13_ R13 s13 h13_ => ?_
    refine sw_sig (σ2 := [some v0, some v1, some v2, some v3, some v10_, some v13_, none, none, none, none, none, none]) ?_ rfl
    have g12_a' := Dv_mono s13 g12_a
    have g12_b' := Dv_mono s13 g12_b
    have g12_first' := Dv_mono s13 g12_first
    have g12_every_here' := Dv_mono s13 g12_every_here
    have g12_got' := Dv_mono s13 g12_got
    refine sw_setD 6 c_law_by_hand_right.nd (pd_tup (pds_cons (pd_tup (pds_cons (pd_tup (pds_cons pd_int (pds_cons pd_int (pds_cons pd_int (pds_one pd_int))))) (pds_one pd_non))) (pds_cons (pd_tup (pds_cons (pd_tup (pds_cons pd_int (pds_cons pd_int (pds_cons pd_int (pds_one pd_int))))) (pds_one (pd_tup (pds_cons pd_int (pds_cons pd_int (pds_cons pd_int (pds_one pd_int)))))))) (pds_one (pd_tup (pds_cons (pd_tup (pds_cons pd_int (pds_cons pd_int (pds_cons pd_int (pds_one pd_int))))) (pds_one (pd_tup (pds_cons pd_int (pds_cons pd_int (pds_cons pd_int (pds_one pd_int)))))))))))) fun v14_ R14 s14 h14_ => ?_
    refine sw_sig (σ2 := [some v0, some v1, some v2, some v3, some v10_, some v13_, some v14_, none, none, none, none, none]) ?_ rfl
    have g12_a'' := Dv_mono s14 g12_a'
    have g12_b'' := Dv_mono s14 g12_b'
    have g12_first'' := Dv_mono s14 g12_first'
    have g12_every_here'' := Dv_mono s14 g12_every_here'
    have g12_got'' := Dv_mono s14 g12_got'
    have h13_' := Dv_mono s14 h13_
    refine sw_setD 4 c_law_by_hand_right.nd (pd_cat (pd_var 4 rfl g12_got'') (pd_lst (pds_cons (PD.eq (pd_call F_range_of (hr.mono (by decide)) (pds_one (pd_var 6 rfl h14_)) ⟨encS hS10, hS10, rfl, by decide +kernel, tupM_noL _ (noL_encS _), bhok_13, rfl⟩) (congrArg encS bh_20)) (pds_cons (PD.eq (pd_call F_range_of (hr.mono (by decide)) (pds_one (pd_tup pds_nil)) ⟨encS ([] : Span), ([] : Span), rfl, by decide +kernel, tupM_noL _ (noL_encS _), bhok_3, rfl⟩) (congrArg encS bh_21)) (pds_cons (PD.eq (pd_call F_by_rows (hr.mono (by decide)) (pds_cons (pd_tup (pds_cons (pd_var 0 rfl g12_a'') (pds_one (pd_var 1 rfl g12_b'')))) (pds_one (pd_tup (pds_cons (pd_tup pds_nil) (pds_one (pd_tup (pds_one pd_int))))))) ⟨encSs ([hS0, hS1] : List Span), encRs ([[], [0]] : List Row), ([hS0, hS1] : List Span), ([[], [0]] : List Row), rfl, by decide +kernel, tupM_noL _ (noL_encSs _), bhok_0, by decide +kernel, tupM_noL _ (noL_encRs _), rfl⟩) (congrArg encS bh_22)) (pds_cons (PD.eq (pd_call F_by_rows (hr.mono (by decide)) (pds_cons (pd_tup (pds_cons (pd_var 0 rfl g12_a'') (pds_one (pd_var 1 rfl g12_b'')))) (pds_one (pd_tup pds_nil))) ⟨encSs ([hS0, hS1] : List Span), encRs ([] : List Row), ([hS0, hS1] : List Span), ([] : List Row), rfl, by decide +kernel, tupM_noL _ (noL_encSs _), bhok_0, by decide +kernel, tupM_noL _ (noL_encRs _), rfl⟩) (congrArg encS bh_23)) (pds_one (PD.eq (pd_call F_by_rows (hr.mono (by decide)) (pds_cons (pd_tup (pds_cons (pd_var 0 rfl g12_a'') (pds_one (pd_var 0 rfl g12_a'')))) (pds_one (pd_tup (pds_cons (pd_tup (pds_one pd_int)) (pds_one (pd_tup (pds_one pd_int))))))) ⟨encSs ([hS0, hS0] : List Span), encRs ([[0], [1]] : List Row), ([hS0, hS0] : List Span), ([[0], [1]] : List Row), rfl, by decide +kernel, tupM_noL _ (noL_encSs _), bhok_9, by decide +kernel, tupM_noL _ (noL_encRs _), rfl⟩) (congrArg encS bh_24)))))))) (by decide +kernel)) fun v15_ R15 s15 h15_ => ?_
    refine sw_sig (σ2 := [some v0, some v1, some v2, some v3, some v15_, some v13_, some v14_, none, none, none, none, none]) ?_ rfl
    have g12_a''' := Dv_mono s15 g12_a''
    have g12_b''' := Dv_mono s15 g12_b''
    have g12_first''' := Dv_mono s15 g12_first''
    have g12_every_here''' := Dv_mono s15 g12_every_here''
    have h13_'' := Dv_mono s15 h13_'
    have h14_' := Dv_mono s15 h14_
    refine sw_setD 5 c_law_by_hand_right.nd (pd_cat (pd_var 5 rfl h13_'') (pd_lst (pds_cons (pd_tup (pds_one (pd_tup (pds_cons (pd_tup (pds_cons pd_int (pds_cons pd_int (pds_cons pd_int (pds_one pd_int))))) (pds_one pd_non))))) (pds_cons (pd_tup pds_nil) (pds_cons (pd_tup (pds_cons (pd_tup (pds_cons (pd_var 2 rfl g12_first''') (pds_one (pd_tup (pds_cons pd_int (pds_cons pd_int (pds_cons pd_int (pds_one pd_int)))))))) (pds_one (pd_tup (pds_cons (pd_tup (pds_cons pd_int (pds_cons pd_int (pds_cons pd_int (pds_one (pd_neg pd_int)))))) (pds_one (pd_tup (pds_cons pd_int (pds_cons pd_int (pds_cons pd_int (pds_one pd_int))))))))))) (pds_cons (pd_tup pds_nil) (pds_one (pd_tup pds_nil))))))) (by decide +kernel)) fun v16_ R16 s16 h16_ => ?_
    refine sw_sig (σ2 := [some v0, some v1, some v2, some v3, some v15_, some v16_, some v14_, none, none, none, none, none]) ?_ rfl
    have g12_a'''' := Dv_mono s16 g12_a'''
    have g12_b'''' := Dv_mono s16 g12_b'''
    have g12_first'''' := Dv_mono s16 g12_first'''
    have g12_every_here'''' := Dv_mono s16 g12_every_here'''
    have h14_'' := Dv_mono s16 h14_'
    have h15_' := Dv_mono s16 h15_
    refine sw_setD 7 c_law_by_hand_right.nd (pd_lst (pds_cons (pd_var 0 rfl g12_a'''') (pds_cons (pd_tup (pds_cons (pd_tup (pds_cons (pd_tup (pds_cons pd_int (pds_cons pd_int (pds_cons pd_int (pds_one pd_int))))) (pds_one (pd_tup (pds_cons pd_int (pds_cons pd_int (pds_cons pd_int (pds_one pd_int)))))))) (pds_one (pd_tup (pds_cons (pd_tup (pds_cons pd_int (pds_cons pd_int (pds_cons pd_int (pds_one pd_int))))) (pds_one pd_non)))))) (pds_cons (pd_tup pds_nil) (pds_one (pd_tup (pds_cons (pd_tup (pds_cons (pd_var 2 rfl g12_first'''') (pds_one pd_non))) (pds_one (pd_tup (pds_cons (pd_tup (pds_cons pd_int (pds_cons pd_int (pds_cons pd_int (pds_one pd_int))))) (pds_one pd_non))))))))))) fun v17_ R17 s17 h17_ => ?_
    refine sw_sig (σ2 := [some v0, some v1, some v2, some v3, some v15_, some v16_, some v14_, some v17_, none, none, none, none]) ?_ rfl
    have g12_a''''' := Dv_mono s17 g12_a''''
    have g12_b''''' := Dv_mono s17 g12_b''''
    have g12_first''''' := Dv_mono s17 g12_first''''
    have g12_every_here''''' := Dv_mono s17 g12_every_here''''
    have h14_''' := Dv_mono s17 h14_''
    have h15_'' := Dv_mono s17 h15_'
    have h16_' := Dv_mono s17 h16_
    have hth : Dv K _ _ (.list thingsD) := h17_
    refine sw_par2 4 5 rfl c_law_by_hand_right.nd (by decide) (pd_cat (fs := (([true, false, true, false] : List Bool).map .bool)) (pd_var 4 rfl h15_'') ?_ (by decide +kernel)) (pd_cat (pd_var 5 rfl h16_') (pd_lst (pds_cons pd_bool (pds_cons pd_bool (pds_cons pd_bool (pds_one pd_bool))))) (by decide +kernel)) (fun v4 v5 R18 s18 h18_g h18_d => ?_) rfl
    · exact (PD.eq (d1 := .list (([true, false, true, false] : List Bool).map .bool)) (pd_lc (ds := thingsD) (own := [("_law_own", 8)]) (g := gName 8) (f := fun d => some (.bool (rangeM d))) rfl c_law_by_hand_right.nd (pid_seq (pd_var 7 rfl hth) .l) (blkOk_by (by show blkC n_law_by_hand_right (defScope s_law_by_hand_right) _ _ = true; decide +kernel)) len_things (fun _ _ _ _ _ => pg_name (i := 8) c_law_by_hand_right.nd rfl (Or.inl rfl)) (fun d v R1 H1 kk hd s1 s2 dv q2 => q2 _ rfl (lcb_all fun _ _ _ _ _ => pd_call F_is_range (hr.mono (by decide)) (pds_one (pd_var 8 rfl dv)) ⟨d, rfl, fin_things d hd, rfl⟩))) (congrArg PyData.list things_eq))
    refine sw_sig (σ2 := [some v0, some v1, some v2, some v3, some v4, some v5, some v14_, some v17_, none, none, none, none]) ?_ rfl
    have g12_a'''''' := Dv_mono s18 g12_a'''''
    have g12_b'''''' := Dv_mono s18 g12_b'''''
    have g12_first'''''' := Dv_mono s18 g12_first'''''
    have g12_every_here'''''' := Dv_mono s18 g12_every_here'''''
    have h14_'''' := Dv_mono s18 h14_'''
    have h17_' := Dv_mono s18 h17_
    refine sw_setD 9 c_law_by_hand_right.nd (pd_tup (pds_one (pd_tup (pds_cons (pd_tup (pds_cons pd_int (pds_cons pd_int (pds_cons pd_int (pds_one (pd_neg pd_int)))))) (pds_one (pd_tup (pds_cons pd_int (pds_cons pd_int (pds_cons pd_int (pds_one (pd_neg pd_int))))))))))) fun v19_ R19 s19 h19_ => ?_
    refine sw_sig (σ2 := [some v0, some v1, some v2, some v3, some v4, some v5, some v14_, some v17_, none, some v19_, none, none]) ?_ rfl
    have g12_a''''''' := Dv_mono s19 g12_a''''''
    have g12_b''''''' := Dv_mono s19 g12_b''''''
    have g12_first''''''' := Dv_mono s19 g12_first''''''
    have g12_every_here''''''' := Dv_mono s19 g12_every_here''''''
    have h14_''''' := Dv_mono s19 h14_''''
    have h17_'' := Dv_mono s19 h17_'
    have h18_g' := Dv_mono s19 h18_g
    have h18_d' := Dv_mono s19 h18_d
    refine sw_setD 4 c_law_by_hand_right.nd (pd_cat (pd_var 4 rfl h18_g') (pd_lst (pds_cons (PD.eq (pd_call F_by_rows (hr.mono (by decide)) (pds_cons (pd_tup (pds_cons (pd_var 0 rfl g12_a''''''') (pds_one (pd_var 1 rfl g12_b''''''')))) (pds_one (pd_tup (pds_cons (pd_tup (pds_one pd_int)) (pds_one (pd_tup (pds_one pd_int))))))) ⟨encSs ([hS0, hS1] : List Span), encRs ([[0], [0]] : List Row), ([hS0, hS1] : List Span), ([[0], [0]] : List Row), rfl, by decide +kernel, tupM_noL _ (noL_encSs _), bhok_0, by decide +kernel, tupM_noL _ (noL_encRs _), rfl⟩) (congrArg encS bh_25)) (pds_cons (PD.eq (pd_call F_by_rows (hr.mono (by decide)) (pds_cons (pd_tup (pds_cons (pd_var 0 rfl g12_a''''''') (pds_one (pd_var 1 rfl g12_b''''''')))) (pds_one (pd_tup (pds_cons (pd_tup (pds_cons pd_int (pds_one pd_int))) (pds_one (pd_tup (pds_one pd_int))))))) ⟨encSs ([hS0, hS1] : List Span), encRs ([[0, 7], [0]] : List Row), ([hS0, hS1] : List Span), ([[0, 7], [0]] : List Row), rfl, by decide +kernel, tupM_noL _ (noL_encSs _), bhok_0, by decide +kernel, tupM_noL _ (noL_encRs _), rfl⟩) (congrArg encS bh_26)) (pds_cons (PD.eq (pd_call F_by_rows (hr.mono (by decide)) (pds_cons (pd_tup pds_nil) (pds_one (pd_tup (pds_one (pd_tup pds_nil))))) ⟨encSs ([] : List Span), encRs ([[]] : List Row), ([] : List Span), ([[]] : List Row), rfl, by decide +kernel, tupM_noL _ (noL_encSs _), bhok_11, by decide +kernel, tupM_noL _ (noL_encRs _), rfl⟩) (congrArg encS bh_27)) (pds_one (PD.eq (pd_call F_by_rows (hr.mono (by decide)) (pds_cons (pd_tup pds_nil) (pds_one (pd_tup (pds_cons (pd_tup (pds_one pd_int)) (pds_one (pd_tup pds_nil)))))) ⟨encSs ([] : List Span), encRs ([[0], []] : List Row), ([] : List Span), ([[0], []] : List Row), rfl, by decide +kernel, tupM_noL _ (noL_encSs _), bhok_11, by decide +kernel, tupM_noL _ (noL_encRs _), rfl⟩) (congrArg encS bh_28))))))) (by decide +kernel)) fun v20_ R20 s20 h20_ => ?_
    refine sw_sig (σ2 := [some v0, some v1, some v2, some v3, some v20_, some v5, some v14_, some v17_, none, some v19_, none, none]) ?_ rfl
    have g12_a'''''''' := Dv_mono s20 g12_a'''''''
    have g12_b'''''''' := Dv_mono s20 g12_b'''''''
    have g12_first'''''''' := Dv_mono s20 g12_first'''''''
    have g12_every_here'''''''' := Dv_mono s20 g12_every_here'''''''
    have h14_'''''' := Dv_mono s20 h14_'''''
    have h17_''' := Dv_mono s20 h17_''
    have h18_d'' := Dv_mono s20 h18_d'
    have h19_' := Dv_mono s20 h19_
    refine sw_setD 5 c_law_by_hand_right.nd (pd_cat (pd_var 5 rfl h18_d'') (pd_lst (pds_cons (pd_var 9 rfl h19_') (pds_cons (pd_var 9 rfl h19_') (pds_cons (pd_var 3 rfl g12_every_here'''''''') (pds_one (pd_var 3 rfl g12_every_here'''''''')))))) (by decide +kernel)) fun v21_ R21 s21 h21_ => ?_
    refine sw_sig (σ2 := [some v0, some v1, some v2, some v3, some v20_, some v21_, some v14_, some v17_, none, some v19_, none, none]) ?_ rfl
    have g12_a''''''''' := Dv_mono s21 g12_a''''''''
    have g12_b''''''''' := Dv_mono s21 g12_b''''''''
    have g12_first''''''''' := Dv_mono s21 g12_first''''''''
    have g12_every_here''''''''' := Dv_mono s21 g12_every_here''''''''
    have h14_''''''' := Dv_mono s21 h14_''''''
    have h17_'''' := Dv_mono s21 h17_'''
    have h19_'' := Dv_mono s21 h19_'
    have h20_' := Dv_mono s21 h20_
    refine sw_ifR (b := false) (PTD.eq (ptd_not (ptd (pd_call F_same (hr.mono (by decide)) (pds_cons (pd_var 4 rfl h20_') (pds_one (pd_var 5 rfl h21_))) ⟨handD, rfl, fin_hand, rfl⟩))) rfl) (fun z => by cases z) fun _ R22 s22 => ?_
    have g12_a'''''''''' := Dv_mono s22 g12_a'''''''''
    have g12_b'''''''''' := Dv_mono s22 g12_b'''''''''
    have g12_first'''''''''' := Dv_mono s22 g12_first'''''''''
    have g12_every_here'''''''''' := Dv_mono s22 g12_every_here'''''''''
    have h19_''' := Dv_mono s22 h19_''
    refine sw_par2 10 11 rfl c_law_by_hand_right.nd (by decide) (PD.eq (pd_call F_range_cuts (hr.mono (by decide)) (pds_one (pd_tup (pds_cons (pd_var 0 rfl g12_a'''''''''') (pds_one (pd_var 1 rfl g12_b''''''''''))))) ⟨encSs ([hS0, hS1] : List Span), ([hS0, hS1] : List Span), rfl, by decide +kernel, tupM_noL _ (noL_encSs _), bhok_0, rfl⟩) (congrArg (fun c : List Ver => PyData.list (c.map tupI)) bh_15)) (PD.eq (pd_call F_range_grains (hr.mono (by decide)) (pds_one (pd_tup (pds_cons (pd_var 0 rfl g12_a'''''''''') (pds_one (pd_var 1 rfl g12_b''''''''''))))) ⟨encSs ([hS0, hS1] : List Span), ([hS0, hS1] : List Span), rfl, by decide +kernel, tupM_noL _ (noL_encSs _), bhok_0, rfl⟩) (congrArg (fun c : List Gr => PyData.list (c.map encG)) bh_16)) (fun v10 v11 R23 s23 hc hg => ?_) rfl
    have g12_a''''''''''' := Dv_mono s23 g12_a''''''''''
    have g12_b''''''''''' := Dv_mono s23 g12_b''''''''''
    have g12_first''''''''''' := Dv_mono s23 g12_first''''''''''
    have g12_every_here''''''''''' := Dv_mono s23 g12_every_here''''''''''
    have h19_'''' := Dv_mono s23 h19_'''
    obtain ⟨lc, xc, rfl, rc, xc'⟩ := hc.lstE
    obtain ⟨lg, xg, rfl, rg, xg'⟩ := hg.lstE
    refine sw_sig (σ2 := [some v0, some v1, some v2, some v3, some v20_, some v21_, some v14_, some v17_, none, some v19_, some (V.ref lc), some (V.ref lg)]) ?_ rfl
    refine sw_app (i := 10) (W := fun m d => d = tupI first) rfl rc rfl rfl (by rw [DvAll.len xc']; decide +kernel) (ew_pd (pd_var 2 rfl g12_first''''''''''') rfl) fun v24_ R24 m24 d24 s24 h24_ e24 r24 => ?_
    have k24_a := (Dv_mono s24 g12_a''''''''''').over (o := .lst (xc ++ [v24_])) r24 (by decide +kernel)
    have k24_b := (Dv_mono s24 g12_b''''''''''').over (o := .lst (xc ++ [v24_])) r24 (by decide +kernel)
    have k24_first := (Dv_mono s24 g12_first''''''''''').over (o := .lst (xc ++ [v24_])) r24 (by decide +kernel)
    have k24_every_here := (Dv_mono s24 g12_every_here''''''''''').over (o := .lst (xc ++ [v24_])) r24 (by decide +kernel)
    have k24_out := (Dv_mono s24 h19_'''').over (o := .lst (xc ++ [v24_])) r24 (by decide +kernel)
    obtain ⟨yg, ryg⟩ : ∃ yg, upd R24 lc (.lst (xc ++ [v24_])) lg = some (.lst yg) := by
      by_cases e : lg = lc
      · exact ⟨_, by rw [e, upd_same]⟩
      · exact ⟨_, by rw [upd_ne e]; exact s24 _ _ rg⟩
    refine sw_clear (i := 11) rfl ryg rfl rfl ?_
    have c25_a := k24_a.over (o := .lst []) ryg (by decide +kernel)
    have c25_b := k24_b.over (o := .lst []) ryg (by decide +kernel)
    have c25_first := k24_first.over (o := .lst []) ryg (by decide +kernel)
    have c25_every_here := k24_every_here.over (o := .lst []) ryg (by decide +kernel)
    have c25_out := k24_out.over (o := .lst []) ryg (by decide +kernel)
    refine sw_setD 4 c_law_by_hand_right.nd (pd_lst (pds_cons (PD.eq (d1 := .int 6) (pd_len B (PD.eq (pd_call F_range_cuts (hr.mono (by decide)) (pds_one (pd_tup (pds_cons (pd_var 0 rfl c25_a) (pds_one (pd_var 1 rfl c25_b))))) ⟨encSs ([hS0, hS1] : List Span), ([hS0, hS1] : List Span), rfl, by decide +kernel, tupM_noL _ (noL_encSs _), bhok_0, rfl⟩) (congrArg (fun c : List Ver => PyData.list (c.map tupI)) bh_15)) .l) rfl) (pds_cons (PD.eq (d1 := .int 6) (pd_len B (PD.eq (pd_call F_range_grains (hr.mono (by decide)) (pds_one (pd_tup (pds_cons (pd_var 0 rfl c25_a) (pds_one (pd_var 1 rfl c25_b))))) ⟨encSs ([hS0, hS1] : List Span), ([hS0, hS1] : List Span), rfl, by decide +kernel, tupM_noL _ (noL_encSs _), bhok_0, rfl⟩) (congrArg (fun c : List Gr => PyData.list (c.map encG)) bh_16)) .l) rfl) (pds_cons (PD.eq (pd_call F_by_rows (hr.mono (by decide)) (pds_cons (pd_tup (pds_cons (pd_var 0 rfl c25_a) (pds_one (pd_var 1 rfl c25_b)))) (pds_one (pd_tup (pds_one (pd_tup (pds_one pd_int)))))) ⟨encSs ([hS0, hS1] : List Span), encRs ([[0]] : List Row), ([hS0, hS1] : List Span), ([[0]] : List Row), rfl, by decide +kernel, tupM_noL _ (noL_encSs _), bhok_0, by decide +kernel, tupM_noL _ (noL_encRs _), rfl⟩) (congrArg encS bh_29)) (pds_one (PD.eq (pd_call F_both_of (hr.mono (by decide)) (pds_cons (pd_var 0 rfl c25_a) (pds_one (pd_var 1 rfl c25_b))) ⟨encS hS0, encS hS1, hS0, hS1, rfl, by decide +kernel, tupM_noL _ (noL_encS _), by decide +kernel, tupM_noL _ (noL_encS _), bhok_0, rfl⟩) (congrArg encS bh_0))))))) fun v26_ R26 s26 h26_ => ?_
    refine sw_sig (σ2 := [some v0, some v1, some v2, some v3, some v26_, some v21_, some v14_, some v17_, none, some v19_, some (V.ref lc), some (V.ref lg)]) ?_ rfl
    have c25_a' := Dv_mono s26 c25_a
    have c25_b' := Dv_mono s26 c25_b
    have c25_first' := Dv_mono s26 c25_first
    have c25_every_here' := Dv_mono s26 c25_every_here
    have c25_out' := Dv_mono s26 c25_out
    exact sw_retD (pd_call F_same (hr.mono (by decide)) (pds_cons (pd_var 4 rfl h26_) (pds_one (pd_lst (pds_cons pd_int (pds_cons pd_int (pds_cons (pd_var 9 rfl c25_out') (pds_one (pd_tup (pds_one (pd_tup (pds_cons (pd_tup (pds_cons pd_int (pds_cons pd_int (pds_cons pd_int (pds_one pd_int))))) (pds_one (pd_tup (pds_cons pd_int (pds_cons pd_int (pds_cons pd_int (pds_one (pd_neg pd_int)))))))))))))))))) ⟨.list [.int 6, .int 6, .tuple [.tuple [.tuple [.int 1, .int 4, .int 0, .int (-9)], .tuple [.int 2, .int 0, .int 0, .int (-9)]]], .tuple [.tuple [.tuple [.int 1, .int 0, .int 0, .int 0], .tuple [.int 1, .int 4, .int 0, .int (-9)]]]], rfl, by decide +kernel, rfl⟩) rfl
end
end NF

set_option Elab.async false
set_option linter.all false
set_option maxRecDepth 100000
set_option maxHeartbeats 4000000
namespace NF
open PySem PySem.Spec PyProof.Rows L2
theorem ew_cat {X : Cx} {t : Option Addr} {n : Nat} {a b : Expr} {σ : L2.St} {R : Hp} {es : List PyData} {W1 W : Nat → PyData → Prop} {pos : Pos} (ha : PD X a σ R (.list es)) (hb : EW X t n b σ R W1) (w : ∀ m d, W1 m d → ∃ fs, d = .list fs ∧ es.length + fs.length ≤ sizeLine ∧ W m (.list (es ++ fs))) : EW X t n (.BinOp a .Add b pos) σ R W :=
  ew_two (W1 := fun m d => m = n ∧ d = .list es) (Wb := fun _ _ m d => W1 m d) (fun _ _ p q => pe_op op_cat p q) (ew_pd ha ⟨rfl, rfl⟩) (fun m d e => by rw [e.1]; exact hb) fun m d1 j d2 w1 w2 => by
    obtain ⟨_, rfl⟩ := w1
    obtain ⟨fs, rfl, hl, hw⟩ := w j d2 w2
    refine ⟨.list (es ++ fs), hw, fun x y R1 H1 Q _ s1 h1 h2 k => ?_⟩
    obtain ⟨p, xs, rfl, hs, hx⟩ := h1.lstE
    obtain ⟨q, ys, rfl, ht, hy⟩ := h2.lstE
    exact ⟨p, q, xs, ys, rfl, rfl, s1 _ _ hs, s1 _ _ ht, by rw [DvAll.len hx, DvAll.len hy]; exact hl, fun l hl => k _ _ _ (Grow.add s1 hl) (.lst upd_same (DvAll_mono (same_upd (s1.free hl)) (hx.app hy)))⟩
theorem ew_tuple {X : Cx} {t : Option Addr} {n : Nat} {e : Expr} {σ : L2.St} {R : Hp} {W1 W : Nat → PyData → Prop} {p pos : Pos} (B : Blt X.mg) (ha : EW X t n e σ R W1) (w : ∀ m d, W1 m d → ∃ ds, d = .list ds ∧ W m (.tuple ds)) (hg : Gl X "tuple" := by rfl) (he : starEach [e] X.env = (false, eval e X.env) :: starEach [] X.env := by rfl) : EW X t n (.Call (.Name "tuple" p) [e] [] pos) σ R W :=
  ew_bt call_tuple_of B.tuple PyProof.Rows.boot_tuple (ews_one (Ws := fun m ds => ∃ d, ds = [d] ∧ W1 m d) ha (fun m d h => ⟨d, rfl, h⟩) he) (fun m ds ⟨d, e1, h⟩ => by
    subst e1
    obtain ⟨es, rfl, hw⟩ := w m d h
    refine ⟨.tuple es, hw, fun vs R1 H1 Q _ s1 dvs k => ?_⟩
    obtain ⟨v, rfl, dv⟩ := DvAll.one' dvs
    obtain ⟨p, xs, rfl, hs, hx⟩ := dv.lstE
    exact ⟨p, xs, rfl, .inl ⟨SqL.of (s1 _ _ hs), fun l hl => k _ _ _ (Grow.add s1 hl) (.tup (SqT.of upd_same) (DvAll_mono (same_upd (s1.free hl)) hx))⟩⟩) hg (by decide) (by decide) he
theorem of_spans : ∀ {es : List PyData}, (∀ e ∈ es, ∃ s, e = encS s ∧ Drawn s) → ∃ ws : List Span, es = ws.map encS ∧ ws.length = es.length ∧ ∀ s ∈ ws, Drawn s
  | [], _ => ⟨[], rfl, rfl, fun _ h => nomatch h⟩
  | e :: es, h => by
    obtain ⟨ws, e1, e2, e3⟩ := of_spans (es := es) fun x hx => h x (List.mem_cons_of_mem _ hx)
    obtain ⟨s, rfl, hs⟩ := h e List.mem_cons_self
    exact ⟨s :: ws, by rw [e1]; rfl, by rw [List.length_cons, List.length_cons, e2], fun x hx => by
      rcases List.mem_cons.mp hx with rfl | hx
      · exact hs
      · exact e3 x hx⟩
theorem flag_enc (f : Ver → Bool) (l : List Ver) : PyData.list (l.filterMap fun p => some (.bool (f p))) = .list ((flagged f l).map fun z => .bool z.1) := by
  rw [filterMap_some (fun p : Ver => PyData.bool (f p))]
  unfold flagged
  rw [List.map_map]
  rfl
theorem flag_pts (f : Ver → Bool) (l : List Ver) : PyData.tuple (l.map tupI) = .tuple ((flagged f l).map fun z => tupI z.2) := by
  unfold flagged
  rw [List.map_map]
  rfl
theorem fin_range_of {ps : Span} (ok : SsOk [ps]) : fin 3 (encS (rangeOf ps)) = true := by
  have sub : ∀ v ∈ ends [ps.filter goodP], v ∈ ends [ps] := fun v hv => by
    rw [ends_one] at hv ⊢
    obtain ⟨p, hp, h⟩ := List.mem_flatMap.mp hv
    exact List.mem_flatMap.mpr ⟨p, (List.mem_filter.mp hp).1, h⟩
  have h1 := flags_len (ss := [ps.filter goodP]) [[0]]
  have h2 := endsS_len (ps.filter goodP)
  have h3 := List.length_filter_le goodP ps
  have h4 := ok.len List.mem_cons_self
  rw [ends_one] at h1
  refine fin_encS (fun p hp v hv => ?_) (by unfold rangeOf; omega)
  obtain ⟨e1, e2⟩ := flags_ends (ss := [ps.filter goodP]) (rows := [[0]]) p hp
  have key : ∀ c ∈ cuts [ps.filter goodP], VOk c := fun c hc => by
    rcases mem_cuts.mp hc with rfl | h
    · exact first_ok
    · exact ok.ver c (sub c h)
  have hv' : v = p.1 ∨ v ∈ p.2.toList := by simpa [endsP] using hv
  rcases hv' with z | z
  · rw [z]; exact key _ e1
  · exact key _ (e2 v (by simpa using z))
theorem filt_enc (l : List Ver) (f : Ver → Bool) : PyData.list (l.filterMap fun p => if f p = true then some (tupI p) else none) = .list ((l.filter f).map tupI) := by
  congr 1
  induction l with
  | nil => rfl
  | cons p l ih =>
    by_cases h : f p = true
    · rw [List.filterMap_cons_some (b := tupI p) (by simp [h]), List.filter_cons_of_pos h, List.map_cons, ih]
    · rw [List.filterMap_cons_none (by simp [h]), List.filter_cons_of_neg h, ih]
section
variable {P : Program} {w : World} {K : PySem.W.Frag} {mg : Str → Option Value} {base : Heap}
def pre_right : Nat → List PyData → Nat → PyData → Prop := fun n ds m d => ds = [] ∧ d = .bool true
theorem df_right (F : At K mg "_law_right" s_law_right ["_law_tin"]) (B : Blt mg)
    (F_both_of : Df P w K mg base 8 "both_of" ["one", "other"] (spD K pre_both_of)) (F_either_of : Df P w K mg base 8 "either_of" ["one", "other"] (spD K pre_either_of)) (F_all_but : Df P w K mg base 8 "all_but" ["span"] (spD K pre_all_but)) (F_taken_out : Df P w K mg base 8 "taken_out" ["one", "other"] (spD K pre_taken_out))
    (F_is_inside : Df P w K mg base 9 "is_inside" ["one", "other"] (spD K pre_is_inside)) (F_are_apart : Df P w K mg base 9 "are_apart" ["one", "other"] (spD K pre_are_apart)) (F_parting : Df P w K mg base 8 "parting_version" ["one", "other"] (spD K pre_parting)) (F_range_cuts : Df P w K mg base 6 "range_cuts" ["spans"] (spD K preRCuts))
    (F_range_grains : Df P w K mg base 6 "range_grains" ["spans"] (spD K preRGr)) (F_range_of : Df P w K mg base 8 "range_of" ["pairs"] (spD K preRangeOf)) (F_by_rows : Df P w K mg base 7 "by_rows" ["spans", "rows"] (spD K preRows)) (F_is_range : DfK P w K mg base 4 "is_range" "thing" (spD K preRange))
    (F_same : Df P w K mg base 9 "_law_same" ["_law_got", "_law_due"] (spD K (preSame 8))) (F_lists : Df P w K mg base 5 "_law_lists" ["_law_matter"] (spD K (preRec lisM 4))) (F_flags : Df P w K mg base 3 "_law_by_flags" ["_law_spans_so", "_law_wanted_so"] (spD K pre_by_flags)) (F_points : Df P w K mg base 2 "_law_points" ["_law_spans_so"] (spD K pre_points))
    (F_held : Df P w K mg base 1 "_law_held" ["_law_span_so", "_law_version_so"] (spD K preInn)) (F_span_of : Df P w K mg base 1 "_law_span_of" ["_law_flags_so", "_law_points_so"] (spD K pre_span_of)) (F_grains : Df P w K mg base 3 "_law_grains" ["_law_spans_so"] (spD K pre_law_grains)) (F_subsets : Df P w K mg base 1 "_law_subsets" ["_law_things_so"] (spD K pre_subsets))
    (F_is_span : Df P w K mg base 3 "_law_is_span" ["_law_own"] (spD K preRange)) (F_take : Df P w K mg base 1 "_law_take" ["_law_tin", "_law_below_so"] (spW K pre_take 100000)) (F_pick : Df P w K mg base 2 "_law_pick" ["_law_tin", "_law_goods_so", "_law_count_so"] (spW K pre_pick 50000))
    (F_drawn : Df P w K mg base 3 "_law_drawn_span" ["_law_tin"] (spW K pre_dspan 10000)) (F_bent : Df P w K mg base 2 "_law_bent_span" ["_law_tin", "_law_span_so"] (spW K pre_bent 10000)) (F_dpairs : Df P w K mg base 3 "_law_drawn_pairs" ["_law_tin"] (spW K pre_dpairs 10000)) :
    Df P w K mg base 10 "_law_right" ["_law_tin"] (spW K pre_right 1000) := by
  refine df_box F c_law_right (fun n ds m d h => ?_) fun f cdv A outer s0 H E t vs R n ds m0 d0 hr dv hn h => ?_
  · obtain ⟨rfl, _⟩ := h; rfl
  · obtain ⟨rfl, _⟩ := h
    cases dv
    have hr1 : Room 1 _ := hr.mono (by decide)
    have nd := c_law_right.nd
    -- one, two
    refine sw_two 1 2 rfl nd (W := fun m d => m = n + 28 ∧ ∃ s u, d = .tuple [encS s, encS u] ∧ Drawn s ∧ Drawn u)
      (ew_tup (Ws := fun m ds => m = n + 28 ∧ ∃ s u, ds = [encS s, encS u] ∧ Drawn s ∧ Drawn u) (ews_cons (W := fun m d => m = n + 14 ∧ ∃ s, d = encS s ∧ Drawn s) (Ws2 := fun m d k ds => k = m + 14 ∧ ∃ s, ds = [encS s] ∧ Drawn s)
          (ew_draw (i := 0) (Ws := fun m ds => m = n ∧ ds = []) F_drawn (hr.mono (by decide)) rfl (ews_nil ⟨rfl, rfl⟩) fun m ds e => ?_)
          (fun m d hW => ews_one (W := fun k d => k = m + 14 ∧ ∃ s, d = encS s ∧ Drawn s) (ew_draw (i := 0) (Ws := fun k ds => k = m ∧ ds = []) F_drawn (hr.mono (by decide)) rfl (ews_nil ⟨rfl, rfl⟩) fun k ds e => ?_) fun k d e => ⟨e.1, by obtain ⟨s, e1, e2⟩ := e.2; exact ⟨s, by rw [e1], e2⟩⟩)
          (fun m d k ds e e' => by
            obtain ⟨e1, s, e2, e3⟩ := e
            obtain ⟨e4, u, e5, e6⟩ := e'
            exact ⟨by omega, s, u, by rw [e2, e5], e3, e6⟩))
        (fun m ds e => by
          obtain ⟨e1, s, u, e2, e3⟩ := e
          exact ⟨by rw [e2]; exact Nat.le_of_ble_eq_true rfl, e1, s, u, by rw [e2], e3⟩))
      (fun m d e => by obtain ⟨_, s, u, e2, _⟩ := e; exact ⟨_, _, e2⟩) (fun v1 v2 R1 m d1 d2 s1 h1 h2 e => ?_) rfl
    · obtain ⟨e1, e2⟩ := e
      subst e1
      subst e2
      exact ⟨by omega, ⟨m + 14, _, rfl, rfl, _, rfl, drawn_every⟩, fun j d h => ⟨h.2.1, h.2.2⟩⟩
    · obtain ⟨e1, e2⟩ := e
      have := hW.1
      subst e1
      subst e2
      exact ⟨by omega, ⟨k + 14, _, rfl, rfl, _, rfl, drawn_every⟩, fun j d h => ⟨h.2.1, h.2.2⟩⟩
    obtain ⟨em, s, u, ed, hs, hu⟩ := e
    have e12 := PyData.tuple.inj ed
    have ed1 := (List.cons.inj e12).1
    have ed2 := (List.cons.inj (List.cons.inj e12).2).1
    subst ed1
    subst ed2
    subst em
    have ok_s : SsOk [s] := drawn_ok (fun x hx => by rw [List.mem_singleton.mp hx]; exact hs) (Nat.le_of_ble_eq_true rfl)
    have ok_u : SsOk [u] := drawn_ok (fun x hx => by rw [List.mem_singleton.mp hx]; exact hu) (Nat.le_of_ble_eq_true rfl)
    have ok_two : ∀ x y : Span, Drawn x → Drawn y → SsOk [x, y] := fun x y hx hy => drawn_ok (fun z hz => by
      rcases List.mem_cons.mp hz with rfl | hz
      · exact hx
      · rw [List.mem_singleton.mp hz]; exact hy) (Nat.le_of_ble_eq_true rfl)
    have ok_su := ok_two s u hs hu
    have ok_us := ok_two u s hu hs
    have ok_ss := ok_two s s hs hs
    have fs := fin_drawn hs
    have fu := fin_drawn hu
    have fls : fin 3 (lisM (encS s)) = true := fin_lisM 3 _ fs
    have flu : fin 3 (lisM (encS u)) = true := fin_lisM 3 _ fu
    have ts := tupM_noL _ (noL_encS s)
    have tu := tupM_noL _ (noL_encS u)
    have tls : tupM (lisM (encS s)) = encS s := (tupM_lisM _).trans ts
    have tlu : tupM (lisM (encS u)) = encS u := (tupM_lisM _).trans tu
    refine sw_sig (σ2 := [some (V.ref t), some v1, some v2, none, none, none, none, none, none, none, none, none, none, none, none, none]) ?_ rfl
    -- soft
    refine sw_setD 3 nd (pd_call F_lists (hr.mono (by decide)) (pds_one (pd_var 1 rfl h1)) ⟨_, rfl, fin_mono fs (by decide), rfl⟩) fun v3 R2 s2 h3 => ?_
    refine sw_sig (σ2 := [some (V.ref t), some v1, some v2, some v3, none, none, none, none, none, none, none, none, none, none, none, none]) ?_ rfl
    have h1 := Dv_mono s2 h1
    have h2 := Dv_mono s2 h2
    -- got
    refine sw_setD (d := .list [encS (byFlags [s, u] [[0, 1]]), encS (byFlags [s, u] [[0, 1]]), encS (byFlags [s, u] [[0], [1], [0, 1]]), encS (byFlags [s, u] [[0], [1], [0, 1]]), encS (butOne s), encS (butOne u)]) 4 nd
      (pd_lst (pds_cons (pd_call F_both_of (hr.mono (by decide)) (pds_cons (pd_var 1 rfl h1) (pds_one (pd_var 2 rfl h2))) ⟨_, _, s, u, rfl, fs, ts, fu, tu, ok_su, rfl⟩)
        (pds_cons (PD.eq (pd_call F_both_of (hr.mono (by decide)) (pds_cons (pd_call F_lists (hr.mono (by decide)) (pds_one (pd_var 2 rfl h2)) ⟨_, rfl, fin_mono fu (by decide), rfl⟩) (pds_one (pd_var 3 rfl h3))) ⟨_, _, u, s, rfl, flu, tlu, fls, tls, ok_us, rfl⟩) (congrArg encS (swap_both s u)))
        (pds_cons (pd_call F_either_of (hr.mono (by decide)) (pds_cons (pd_var 1 rfl h1) (pds_one (pd_var 2 rfl h2))) ⟨_, _, s, u, rfl, fs, ts, fu, tu, ok_su, rfl⟩)
        (pds_cons (pd_call F_either_of (hr.mono (by decide)) (pds_cons (pd_var 3 rfl h3) (pds_one (pd_var 2 rfl h2))) ⟨_, _, s, u, rfl, fls, tls, fu, tu, ok_su, rfl⟩)
        (pds_cons (pd_call F_all_but (hr.mono (by decide)) (pds_one (pd_var 1 rfl h1)) ⟨_, s, rfl, fs, ts, ok_s, rfl⟩)
        (pds_one (pd_call F_all_but (hr.mono (by decide)) (pds_one (pd_call F_lists (hr.mono (by decide)) (pds_one (pd_var 2 rfl h2)) ⟨_, rfl, fin_mono fu (by decide), rfl⟩)) ⟨_, u, rfl, flu, tlu, ok_u, rfl⟩))))))))
      fun v4 R3 s3 h4 => ?_
    refine sw_sig (σ2 := [some (V.ref t), some v1, some v2, some v3, some v4, none, none, none, none, none, none, none, none, none, none, none]) ?_ rfl
    have h1 := Dv_mono s3 h1
    have h2 := Dv_mono s3 h2
    have h3 := Dv_mono s3 h3
    -- due
    refine sw_setD (d := .list [encS (byFlags [s, u] [[0, 1]]), encS (byFlags [s, u] [[0, 1]]), encS (byFlags [s, u] [[0], [1], [0, 1]]), encS (byFlags [s, u] [[0], [1], [0, 1]])]) 5 nd
      (pd_cat (es := [encS (byFlags [s, u] [[0, 1]]), encS (byFlags [s, u] [[0, 1]])]) (fs := [encS (byFlags [s, u] [[0], [1], [0, 1]]), encS (byFlags [s, u] [[0], [1], [0, 1]])])
        (PD.eq (pd_rep (es := [encS (byFlags [s, u] [[0, 1]])]) (n := 2) (pd_lst (pds_one (pd_call F_flags (hr.mono (by decide)) (pds_cons (pd_lst (pds_cons (pd_var 1 rfl h1) (pds_one (pd_var 2 rfl h2)))) (pds_one (pd_lst (pds_one (pd_tup (pds_cons pd_int (pds_one pd_int))))))) ⟨_, [s, u], _, [[0, 1]], rfl, .inl rfl, ok_su, .inl rfl, by decide +kernel, rfl⟩))) pd_int (by decide) (by decide) (le_line rfl)) rfl)
        (PD.eq (pd_rep (es := [encS (byFlags [s, u] [[0], [1], [0, 1]])]) (n := 2) (pd_lst (pds_one (pd_call F_flags (hr.mono (by decide)) (pds_cons (pd_lst (pds_cons (pd_var 1 rfl h1) (pds_one (pd_var 2 rfl h2)))) (pds_one (pd_lst (pds_cons (pd_tup (pds_one pd_int)) (pds_cons (pd_tup (pds_one pd_int)) (pds_one (pd_tup (pds_cons pd_int (pds_one pd_int))))))))) ⟨_, [s, u], _, [[0], [1], [0, 1]], rfl, .inl rfl, ok_su, .inl rfl, by decide +kernel, rfl⟩))) pd_int (by decide) (by decide) (le_line rfl)) rfl)
        (le_line rfl))
      fun v5 R4 s4 h5 => ?_
    refine sw_sig (σ2 := [some (V.ref t), some v1, some v2, some v3, some v4, some v5, none, none, none, none, none, none, none, none, none, none]) ?_ rfl
    have h1 := Dv_mono s4 h1
    have h2 := Dv_mono s4 h2
    have h3 := Dv_mono s4 h3
    have h4 := Dv_mono s4 h4
    have L1 : ∀ (R' : Hp) (x : PyData), True := fun _ _ => trivial
    -- due + [by_flags([one], ..), by_flags([two], ..)]
    refine sw_setD (d := .list [encS (byFlags [s, u] [[0, 1]]), encS (byFlags [s, u] [[0, 1]]), encS (byFlags [s, u] [[0], [1], [0, 1]]), encS (byFlags [s, u] [[0], [1], [0, 1]]), encS (butOne s), encS (butOne u)]) 5 nd
      (pd_cat (pd_var 5 rfl h5) (pd_lst (pds_cons (pd_call F_flags (hr.mono (by decide)) (pds_cons (pd_lst (pds_one (pd_var 1 rfl h1))) (pds_one (pd_lst (pds_one (pd_tup pds_nil))))) ⟨_, [s], _, [[]], rfl, .inl rfl, ok_s, .inl rfl, by decide +kernel, rfl⟩)
        (pds_one (pd_call F_flags (hr.mono (by decide)) (pds_cons (pd_lst (pds_one (pd_var 2 rfl h2))) (pds_one (pd_lst (pds_one (pd_tup pds_nil))))) ⟨_, [u], _, [[]], rfl, .inl rfl, ok_u, .inl rfl, by decide +kernel, rfl⟩)))) (le_line rfl)) fun v5 R5 s5 h5 => ?_
    refine sw_sig (σ2 := [some (V.ref t), some v1, some v2, some v3, some v4, some v5, none, none, none, none, none, none, none, none, none, none]) ?_ rfl
    have h1 := Dv_mono s5 h1
    have h2 := Dv_mono s5 h2
    have h3 := Dv_mono s5 h3
    have h4 := Dv_mono s5 h4
    -- out, back
    refine sw_par2 6 7 rfl nd (by decide) (pd_call F_flags (hr.mono (by decide)) (pds_cons (pd_lst (pds_cons (pd_var 1 rfl h1) (pds_one (pd_var 2 rfl h2)))) (pds_one (pd_lst (pds_one (pd_tup (pds_one pd_int)))))) ⟨_, [s, u], _, [[0]], rfl, .inl rfl, ok_su, .inl rfl, by decide +kernel, rfl⟩)
      (pd_call F_flags (hr.mono (by decide)) (pds_cons (pd_lst (pds_cons (pd_var 1 rfl h1) (pds_one (pd_var 2 rfl h2)))) (pds_one (pd_lst (pds_one (pd_tup (pds_one pd_int)))))) ⟨_, [s, u], _, [[1]], rfl, .inl rfl, ok_su, .inl rfl, by decide +kernel, rfl⟩) (fun v6 v7 R6 s6 h6 h7 => ?_) rfl
    refine sw_sig (σ2 := [some (V.ref t), some v1, some v2, some v3, some v4, some v5, some v6, some v7, none, none, none, none, none, none, none, none]) ?_ rfl
    have h1 := Dv_mono s6 h1
    have h2 := Dv_mono s6 h2
    have h3 := Dv_mono s6 h3
    have h4 := Dv_mono s6 h4
    have h5 := Dv_mono s6 h5
    have eE : ∀ x : Span, PyData.eqv (encS x) (.tuple []) = x.isEmpty := fun x => by
      unfold encS
      rw [eqv_nilT]
      unfold encPs
      cases x <;> rfl
    -- got + [taken_out ..]
    refine sw_setD (d := .list ([encS (byFlags [s, u] [[0, 1]]), encS (byFlags [s, u] [[0, 1]]), encS (byFlags [s, u] [[0], [1], [0, 1]]), encS (byFlags [s, u] [[0], [1], [0, 1]]), encS (butOne s), encS (butOne u)] ++ [encS (byFlags [s, u] [[0]]), encS (byFlags [s, u] [[1]]), .bool (byFlags [s, u] [[0]]).isEmpty, .bool (byFlags [s, u] [[1]]).isEmpty, .bool (byFlags [s, u] [[0, 1]]).isEmpty])) 4 nd
      (pd_cat (pd_var 4 rfl h4) (pd_lst (pds_cons (pd_call F_taken_out (hr.mono (by decide)) (pds_cons (pd_var 1 rfl h1) (pds_one (pd_var 2 rfl h2))) ⟨_, _, s, u, rfl, fs, ts, fu, tu, ok_su, rfl⟩)
        (pds_cons (PD.eq (pd_call F_taken_out (hr.mono (by decide)) (pds_cons (pd_var 2 rfl h2) (pds_one (pd_var 3 rfl h3))) ⟨_, _, u, s, rfl, fu, tu, fls, tls, ok_us, rfl⟩) (congrArg encS (swap_out s u)))
        (pds_cons (pd_call F_is_inside hr (pds_cons (pd_var 1 rfl h1) (pds_one (pd_var 2 rfl h2))) ⟨_, _, s, u, rfl, fs, ts, fu, tu, ok_su, rfl⟩)
        (pds_cons (PD.eq (pd_call F_is_inside hr (pds_cons (pd_var 2 rfl h2) (pds_one (pd_var 3 rfl h3))) ⟨_, _, u, s, rfl, fu, tu, fls, tls, ok_us, rfl⟩) (congrArg (fun x : Span => PyData.bool x.isEmpty) (swap_out s u)))
        (pds_one (pd_call F_are_apart hr (pds_cons (pd_var 3 rfl h3) (pds_one (pd_var 2 rfl h2))) ⟨_, _, s, u, rfl, fls, tls, fu, tu, ok_su, rfl⟩))))))) (le_line rfl)) fun v4 R7 s7 h4 => ?_
    refine sw_sig (σ2 := [some (V.ref t), some v1, some v2, some v3, some v4, some v5, some v6, some v7, none, none, none, none, none, none, none, none]) ?_ rfl
    have h1 := Dv_mono s7 h1
    have h2 := Dv_mono s7 h2
    have h3 := Dv_mono s7 h3
    have h5 := Dv_mono s7 h5
    have h6 := Dv_mono s7 h6
    have h7 := Dv_mono s7 h7
    -- due + [out, back, ..]
    refine sw_setD (d := .list ([encS (byFlags [s, u] [[0, 1]]), encS (byFlags [s, u] [[0, 1]]), encS (byFlags [s, u] [[0], [1], [0, 1]]), encS (byFlags [s, u] [[0], [1], [0, 1]]), encS (butOne s), encS (butOne u)] ++ [encS (byFlags [s, u] [[0]]), encS (byFlags [s, u] [[1]]), .bool (byFlags [s, u] [[0]]).isEmpty, .bool (byFlags [s, u] [[1]]).isEmpty, .bool (byFlags [s, u] [[0, 1]]).isEmpty])) 5 nd
      (pd_cat (pd_var 5 rfl h5) (pd_lst (pds_cons (pd_var 6 rfl h6) (pds_cons (pd_var 7 rfl h7)
        (pds_cons (PD.eq (pd_eq hr.units (pd_var 6 rfl h6) (pd_tup pds_nil) (shaped_flags ok_su _) rfl) (congrArg PyData.bool (eE _)))
        (pds_cons (PD.eq (pd_eq hr.units (pd_var 7 rfl h7) (pd_tup pds_nil) (shaped_flags ok_su _) rfl) (congrArg PyData.bool (eE _)))
        (pds_one (PD.eq (pd_eq hr.units (pd_ix (f := encS (byFlags [s, u] [[0, 1]])) (pd_var 5 rfl h5) pd_int .l rfl) (pd_tup pds_nil) (shaped_flags ok_su _) rfl) (congrArg PyData.bool (eE _))))))))) (le_line rfl)) fun v5 R8 s8 h5 => ?_
    refine sw_sig (σ2 := [some (V.ref t), some v1, some v2, some v3, some v4, some v5, some v6, some v7, none, none, none, none, none, none, none, none]) ?_ rfl
    have h1 := Dv_mono s8 h1
    have h2 := Dv_mono s8 h2
    have h3 := Dv_mono s8 h3
    have h4 := Dv_mono s8 h4
    -- parted
    have hsl : s.length ≤ 1000 := Nat.le_trans hs.few (by decide)
    have hul : u.length ≤ 1000 := Nat.le_trans hu.few (by decide)
    have hcl : (cuts [s, u]).length ≤ 63 := Nat.le_trans (cuts_len _) (by have := ok_su.few; omega)
    refine sw_setD (d := .list (((cuts [s, u]).filter fun p => inn s p != inn u p).map tupI ++ [.none])) 8 nd
      (pd_cat (PD.eq (pd_lcT (l := cuts [s, u]) (enc := tupI) (own := [("_law_own", 9)]) (g := gName 9) (f := fun p => if (inn s p != inn u p) = true then some (tupI p) else none) rfl nd (pid_seq (pd_call F_points (hr.mono (by decide)) (pds_one (pd_lst (pds_cons (pd_var 1 rfl h1) (pds_one (pd_var 2 rfl h2))))) ⟨_, [s, u], rfl, .inl rfl, ok_su, rfl⟩) .t) (blkOk_by (by show blkC n_law_right (defScope s_law_right) _ _ = true; decide +kernel)) (Nat.le_trans hcl (by decide)) (fun _ _ _ _ _ => pg_name (i := 9) nd rfl (Or.inl rfl))
        (fun p v Ra Ha kk hd sa sb dv q2 => q2 _ rfl (lcb_if (fun _ _ _ _ _ => PTD.eq (ptd_ne hr.units (pd_call F_held (hr.mono (by decide)) (pds_cons (pd_var 1 rfl (Dv_mono sa h1)) (pds_one (pd_var 9 rfl dv))) ⟨s, p, rfl, hsl, rfl⟩) (pd_call F_held (hr.mono (by decide)) (pds_cons (pd_var 2 rfl (Dv_mono sa h2)) (pds_one (pd_var 9 rfl dv))) ⟨u, p, rfl, hul, rfl⟩) rfl rfl) (by cases inn s p <;> cases inn u p <;> rfl)) fun _ _ _ _ _ _ => pd_var 9 rfl dv))) (filt_enc _ _)) (pd_lst (pds_one pd_non)) ?_) fun v8 R9 s9 h8 => ?_
    · rw [List.length_map]
      have := List.length_filter_le (fun p => inn s p != inn u p) (cuts [s, u])
      exact Nat.le_trans (show _ + 1 ≤ 100 by omega) (by decide)
    refine sw_sig (σ2 := [some (V.ref t), some v1, some v2, some v3, some v4, some v5, some v6, some v7, some v8, none, none, none, none, none, none, none]) ?_ rfl
    have h1 := Dv_mono s9 h1
    have h2 := Dv_mono s9 h2
    have h3 := Dv_mono s9 h3
    have h4 := Dv_mono s9 h4
    have h5 := Dv_mono s9 h5
    have fbu : fin 3 (encS (butOne u)) = true := fin_flags ok_u _
    have epart : ∀ x y : Span, ((byFlags [x, y] [[0], [1]]).head?.map (·.1)) = parted x y := fun x y => parting_eq x y
    have ebb : butOne (butOne u) = u := butOne_butOne hu.can (up_line hu.on)
    -- got + [parting ..]
    refine sw_setD (d := .list (([encS (byFlags [s, u] [[0, 1]]), encS (byFlags [s, u] [[0, 1]]), encS (byFlags [s, u] [[0], [1], [0, 1]]), encS (byFlags [s, u] [[0], [1], [0, 1]]), encS (butOne s), encS (butOne u)] ++ [encS (byFlags [s, u] [[0]]), encS (byFlags [s, u] [[1]]), .bool (byFlags [s, u] [[0]]).isEmpty, .bool (byFlags [s, u] [[1]]).isEmpty, .bool (byFlags [s, u] [[0, 1]]).isEmpty]) ++ [encO (parted s u), encO (parted s u), .none, encS u])) 4 nd
      (pd_cat (pd_var 4 rfl h4) (pd_lst (pds_cons (PD.eq (pd_call F_parting (hr.mono (by decide)) (pds_cons (pd_var 1 rfl h1) (pds_one (pd_var 2 rfl h2))) ⟨_, _, s, u, rfl, fs, ts, fu, tu, ok_su, rfl⟩) (congrArg encO (epart s u)))
        (pds_cons (PD.eq (pd_call F_parting (hr.mono (by decide)) (pds_cons (pd_var 2 rfl h2) (pds_one (pd_var 1 rfl h1))) ⟨_, _, u, s, rfl, fu, tu, fs, ts, ok_us, rfl⟩) (congrArg encO ((epart u s).trans (part_swap s u))))
        (pds_cons (PD.eq (pd_call F_parting (hr.mono (by decide)) (pds_cons (pd_var 1 rfl h1) (pds_one (pd_var 3 rfl h3))) ⟨_, _, s, s, rfl, fs, ts, fls, tls, ok_ss, rfl⟩) (congrArg encO ((epart s s).trans (part_self s))))
        (pds_one (PD.eq (pd_call F_all_but (hr.mono (by decide)) (pds_one (pd_call F_all_but (hr.mono (by decide)) (pds_one (pd_var 2 rfl h2)) ⟨_, u, rfl, fu, tu, ok_u, rfl⟩)) ⟨_, butOne u, rfl, fbu, tupM_noL _ (noL_encS _), ok_but hu, rfl⟩) (congrArg encS ebb))))))) (le_line rfl)) fun v4 R10 s10 h4 => ?_
    refine sw_sig (σ2 := [some (V.ref t), some v1, some v2, some v3, some v4, some v5, some v6, some v7, some v8, none, none, none, none, none, none, none]) ?_ rfl
    have h1 := Dv_mono s10 h1
    have h2 := Dv_mono s10 h2
    have h5 := Dv_mono s10 h5
    have h8 := Dv_mono s10 h8
    -- due + [parted ..]
    refine sw_setD (d := .list (([encS (byFlags [s, u] [[0, 1]]), encS (byFlags [s, u] [[0, 1]]), encS (byFlags [s, u] [[0], [1], [0, 1]]), encS (byFlags [s, u] [[0], [1], [0, 1]]), encS (butOne s), encS (butOne u)] ++ [encS (byFlags [s, u] [[0]]), encS (byFlags [s, u] [[1]]), .bool (byFlags [s, u] [[0]]).isEmpty, .bool (byFlags [s, u] [[1]]).isEmpty, .bool (byFlags [s, u] [[0, 1]]).isEmpty]) ++ [encO (parted s u), encO (parted s u), .none, encS u])) 5 nd
      (pd_cat (pd_var 5 rfl h5) (pd_lst (pds_cons (pd_ix (f := encO (parted s u)) (pd_var 8 rfl h8) pd_int .l (atI_head _)) (pds_cons (pd_ix (f := encO (parted s u)) (pd_var 8 rfl h8) pd_int .l (atI_head _)) (pds_cons pd_non (pds_one (pd_var 2 rfl h2)))))) (le_line rfl)) fun v5 R11 s11 h5 => ?_
    refine sw_sig (σ2 := [some (V.ref t), some v1, some v2, some v3, some v4, some v5, some v6, some v7, some v8, none, none, none, none, none, none, none]) ?_ rfl
    have h1 := Dv_mono s11 h1
    have h2 := Dv_mono s11 h2
    have h4 := Dv_mono s11 h4
    have fz0 : ∀ d ∈ (([encS (byFlags [s, u] [[0, 1]]), encS (byFlags [s, u] [[0, 1]]), encS (byFlags [s, u] [[0], [1], [0, 1]]), encS (byFlags [s, u] [[0], [1], [0, 1]]), encS (butOne s), encS (butOne u)] ++ [encS (byFlags [s, u] [[0]]), encS (byFlags [s, u] [[1]]), .bool (byFlags [s, u] [[0]]).isEmpty, .bool (byFlags [s, u] [[1]]).isEmpty, .bool (byFlags [s, u] [[0, 1]]).isEmpty]) ++ [encO (parted s u), encO (parted s u), .none, encS u]), fin 7 d = true := by
      have ff : ∀ rows, fin 7 (encS (byFlags [s, u] rows)) = true := fun rows => fin_mono (fin_flags ok_su rows) (by decide)
      have fp : fin 7 (encO (parted s u)) = true := fin_mono (fin_encO fun v hv => (cuts_ok ok_su v (List.mem_filter.mp (List.mem_of_mem_head? hv)).1).2) (by decide)
      intro d hd
      simp only [List.mem_append, List.mem_cons, List.not_mem_nil, or_false] at hd
      rcases hd with ((rfl | rfl | rfl | rfl | rfl | rfl) | (rfl | rfl | rfl | rfl | rfl)) | (rfl | rfl | rfl | rfl)
      · exact ff _
      · exact ff _
      · exact ff _
      · exact ff _
      · exact fin_mono (fin_flags ok_s [[]]) (by decide)
      · exact fin_mono (fin_flags ok_u [[]]) (by decide)
      · exact ff _
      · exact ff _
      · rfl
      · rfl
      · rfl
      · exact fp
      · exact fp
      · rfl
      · exact fin_mono fu (by decide)
    have lz0 : (([encS (byFlags [s, u] [[0, 1]]), encS (byFlags [s, u] [[0, 1]]), encS (byFlags [s, u] [[0], [1], [0, 1]]), encS (byFlags [s, u] [[0], [1], [0, 1]]), encS (butOne s), encS (butOne u)] ++ [encS (byFlags [s, u] [[0]]), encS (byFlags [s, u] [[1]]), .bool (byFlags [s, u] [[0]]).isEmpty, .bool (byFlags [s, u] [[1]]).isEmpty, .bool (byFlags [s, u] [[0, 1]]).isEmpty]) ++ [encO (parted s u), encO (parted s u), .none, encS u]).length = 15 := rfl
    generalize (([encS (byFlags [s, u] [[0, 1]]), encS (byFlags [s, u] [[0, 1]]), encS (byFlags [s, u] [[0], [1], [0, 1]]), encS (byFlags [s, u] [[0], [1], [0, 1]]), encS (butOne s), encS (butOne u)] ++ [encS (byFlags [s, u] [[0]]), encS (byFlags [s, u] [[1]]), .bool (byFlags [s, u] [[0]]).isEmpty, .bool (byFlags [s, u] [[1]]).isEmpty, .bool (byFlags [s, u] [[0, 1]]).isEmpty]) ++ [encO (parted s u), encO (parted s u), PyData.none, encS u]) = Z at h4 h5 fz0 lz0
    -- spans
    refine sw_set 10 nd (W := fun m d => m ≤ n + 60 ∧ ∃ ws : List Span, d = encSs ([s, u] ++ ws) ∧ ws.length ≤ 2 ∧ ∀ x ∈ ws, Drawn x)
      (ew_tuple B (ew_cat (W1 := fun m d => m ≤ n + 60 ∧ ∃ ws : List Span, d = .list (ws.map encS) ∧ ws.length ≤ 2 ∧ ∀ x ∈ ws, Drawn x) (W := fun m d => m ≤ n + 60 ∧ ∃ ws : List Span, d = .list (([s, u] ++ ws).map encS) ∧ ws.length ≤ 2 ∧ ∀ x ∈ ws, Drawn x) (pd_lst (pds_cons (pd_var 1 rfl h1) (pds_one (pd_var 2 rfl h2))))
          (ew_lc (own := [("_law_lap", 11)]) (g := gName 11) (W := fun m ds => m = n + 14 + 14 + 1 ∧ ds.length ≤ 2) (c := 14) (lim := n + 100) (Pe := fun e => ∃ s, e = encS s ∧ Drawn s) rfl nd
            (eiw_range B (ew_take (i := 0) F_take hr1 (by decide) rfl (by decide) (by decide) (by omega)) fun m d e => by
              obtain ⟨e1, i, e2, h1, h2⟩ := e
              exact ⟨i, e2, by omega, by omega, e1, by rw [rangeD_len]; omega⟩)
            (blkOk_by (by show blkC n_law_right (defScope s_law_right) _ _ = true; decide +kernel)) (fun m ds e => ⟨by omega, by omega⟩) (fun m ds es k e e1 e2 e3 => by
              obtain ⟨ws, w1, w2, w3⟩ := of_spans e2
              exact ⟨by omega, ws, by rw [w1], by omega, w3⟩) (fun _ _ _ _ _ => pg_name (i := 11) nd rfl (Or.inl rfl))
            (fun m ds j d v Ra Ha kk hW hd hj sa sb dv q2 => q2 _ rfl fun _ _ _ _ _ => ew_draw (i := 0) (Ws := fun k ds => k = j ∧ ds = []) F_drawn (hr.mono (by decide)) rfl (ews_nil ⟨rfl, rfl⟩) fun k ds e => by
              obtain ⟨e1, e2⟩ := e
              subst e2
              rw [e1]
              exact ⟨by omega, ⟨j + 14, _, rfl, rfl, _, rfl, drawn_every⟩, fun i d h => ⟨by have := h.2.1; omega, h.2.2⟩⟩))
          (fun m d e => by
            obtain ⟨e1, ws, e2, e3, e4⟩ := e
            refine ⟨ws.map encS, e2, ?_, e1, ws, by rw [List.map_append]; rfl, e3, e4⟩
            rw [List.length_map]
            exact Nat.le_trans (show 2 + ws.length ≤ 100 by omega) (by decide)))
        (fun m d e => by
          obtain ⟨e1, ws, e2, e3⟩ := e
          exact ⟨_, e2, e1, ws, rfl, e3⟩)) fun v10 R12 m12 d12 s12 h10 e12' => ?_
    refine sw_sig (σ2 := [some (V.ref t), some v1, some v2, some v3, some v4, some v5, some v6, some v7, some v8, none, some v10, none, none, none, none, none]) ?_ rfl
    obtain ⟨em12, ws, ed, hwl, hws⟩ := e12'
    subst ed
    have h1 := Dv_mono s12 h1
    have h2 := Dv_mono s12 h2
    have h4 := Dv_mono s12 h4
    have h5 := Dv_mono s12 h5
    obtain ⟨ss, ess⟩ : ∃ ss : List Span, ss = [s, u] ++ ws := ⟨_, rfl⟩
    rw [← ess] at h10
    have hss : ∀ x ∈ ss, Drawn x := fun x hx => by
      rw [ess] at hx
      rcases List.mem_append.mp hx with hx | hx
      · rcases List.mem_cons.mp hx with rfl | hx
        · exact hs
        · rw [List.mem_singleton.mp hx]; exact hu
      · exact hws x hx
    have hsl4 : ss.length ≤ 4 := by rw [ess, List.length_append]; show 2 + ws.length ≤ 4; omega
    have ok_all : SsOk ss := drawn_ok hss hsl4
    have fall : fin 4 (encSs ss) = true := fin_encSs ok_all
    have tall := tupM_noL _ (noL_encSs ss)
    have tlall : tupM (lisM (encSs ss)) = encSs ss := (tupM_lisM _).trans tall
    -- rows
    refine sw_set 12 nd (W := fun m d => m ≤ n + 70 ∧ ∃ rs : List Row, d = encRs rs ∧ rs.length ≤ 6 ∧ ∀ r ∈ rs, r.length ≤ 1000)
      (ew_tuple B (ew_draw (i := 0) (Ws := fun m ds => m = m12 + 1 ∧ ∃ c, ds = [.list ((subs ss.length).map tupI), .int c] ∧ 0 ≤ c ∧ c ≤ 6) (W := fun m d => m ≤ n + 70 ∧ ∃ rs : List Row, d = .list (rs.map tupI) ∧ rs.length ≤ 6 ∧ ∀ r ∈ rs, r.length ≤ 1000) F_pick (hr.mono (by decide)) rfl
          (ews_cons (W := fun m d => m = m12 ∧ d = .list ((subs ss.length).map tupI)) (Ws2 := fun m d k ds => k = m12 + 1 ∧ ∃ c, ds = [.int c] ∧ 0 ≤ c ∧ c ≤ 6) (ew_pd (pd_call F_subsets hr1 (pds_one (pd_listRange (n := ss.length) rfl B (PD.eq (pd_len B (pd_var 10 rfl h10) .t) (by rw [List.length_map])) (by omega))) ⟨ss.length, rfl, by omega, rfl⟩) ⟨rfl, rfl⟩)
            (fun m d e => by
              rw [e.1]
              exact ews_one (W := fun k d => k = m12 + 1 ∧ ∃ i, d = .int i ∧ 0 ≤ i ∧ i < 6) (ew_take (i := 0) F_take hr1 (by decide) rfl (by decide) (by decide) (by omega)) fun k d e => by
                obtain ⟨e1, i, e2, h1, h2⟩ := e
                exact ⟨e1, i, by rw [e2], h1, by omega⟩)
            (fun m d k ds e e' => by
              obtain ⟨e3, c, e4, e5, e6⟩ := e'
              exact ⟨e3, c, by rw [e.2, e4], e5, e6⟩))
          (fun m ds e => by
            obtain ⟨e1, c, e2, e3, e4⟩ := e
            subst e1
            subst e2
            have hsub : (subs ss.length).length ≤ 64 := by
              rw [subs_len]
              have : 2 ^ ss.length ≤ 2 ^ 4 := Nat.pow_le_pow_right (by decide) hsl4
              omega
            refine ⟨by omega, ⟨m12 + 1 + 6, .list [], _, c, rfl, e3, e4, by rw [List.length_map]; omega, fun g hg => (by
              obtain ⟨r, _, rfl⟩ := List.mem_map.mp hg
              exact noL_tupI r), rfl, [], _, rfl, .refl _, by decide⟩, fun j d h => ?_⟩
            obtain ⟨gs, c', ec, _, _, _, _, ej, out, rest, ed, hper, hl⟩ := h
            have eg : (subs ss.length).map tupI = gs := PyData.list.inj (List.cons.inj ec).1
            subst eg
            obtain ⟨rs, rfl, hon⟩ := of_line (out := out) (vs := subs ss.length) fun d hd => hper.mem_iff.mp (List.mem_append_left _ hd)
            exact ⟨by omega, rs, ed, by rw [List.length_map] at hl; exact hl, fun r hr' => Nat.le_trans (subs_rows _ r (hon r hr')) (by omega)⟩))
        (fun m d e => by
          obtain ⟨e1, rs, e2, e3⟩ := e
          exact ⟨_, e2, e1, rs, rfl, e3⟩)) fun v12 R13 m13 d13 s13 h12 e13 => ?_
    refine sw_sig (σ2 := [some (V.ref t), some v1, some v2, some v3, some v4, some v5, some v6, some v7, some v8, none, some v10, none, some v12, none, none, none]) ?_ rfl
    obtain ⟨em13, rs, ed, hrl, hrs⟩ := e13
    subst ed
    have h1 := Dv_mono s13 h1
    have h2 := Dv_mono s13 h2
    have h4 := Dv_mono s13 h4
    have h5 := Dv_mono s13 h5
    have h10 := Dv_mono s13 h10
    have frs : fin 4 (encRs rs) = true := fin_mono (n := 2) (fin_t.mpr ⟨by rw [List.length_map]; omega, fun d hd => (by
      obtain ⟨r, hr', rfl⟩ := List.mem_map.mp hd
      exact fin_tupI (hrs r hr'))⟩) (by decide)
    have trs := tupM_noL _ (noL_encRs rs)
    have tlrs : tupM (lisM (encRs rs)) = encRs rs := (tupM_lisM _).trans trs
    have dls : PD (dcx P w K mg base n_law_right "_law_right" (defScope s_law_right) f cdv A outer s0 H E) (.Constant .none 0 ⟨0, 0, 0, 0⟩) [] R13 .none := pd_non
    -- got + [range_cuts(spans), ..]
    refine sw_setD (d := .list (Z ++ [.list ((cuts ss).map tupI), .list ((grains ss).map encG), encS (byFlags ss rs), encS (byFlags ss rs)])) 4 nd
      (pd_cat (pd_var 4 rfl h4) (pd_lst (pds_cons (pd_call F_range_cuts (hr.mono (by decide)) (pds_one (pd_var 10 rfl h10)) ⟨_, ss, rfl, fall, tall, ok_all, rfl⟩)
        (pds_cons (pd_call F_range_grains (hr.mono (by decide)) (pds_one (pd_call F_lists (hr.mono (by decide)) (pds_one (pd_var 10 rfl h10)) ⟨_, rfl, fall, rfl⟩)) ⟨_, ss, rfl, fin_lisM 4 _ fall, tlall, ok_all, rfl⟩)
        (pds_cons (pd_call F_by_rows (hr.mono (by decide)) (pds_cons (pd_var 10 rfl h10) (pds_one (pd_var 12 rfl h12))) ⟨_, _, ss, rs, rfl, fall, tall, ok_all, frs, trs, rfl⟩)
        (pds_one (pd_call F_by_rows (hr.mono (by decide)) (pds_cons (pd_call F_lists (hr.mono (by decide)) (pds_one (pd_var 10 rfl h10)) ⟨_, rfl, fall, rfl⟩) (pds_one (pd_call F_lists (hr.mono (by decide)) (pds_one (pd_var 12 rfl h12)) ⟨_, rfl, frs, rfl⟩))) ⟨_, _, ss, rs, rfl, fin_lisM 4 _ fall, tlall, ok_all, fin_lisM 4 _ frs, tlrs, rfl⟩)))))) (le_line (by rw [lz0]; rfl))) fun v4 R14 s14 h4 => ?_
    refine sw_sig (σ2 := [some (V.ref t), some v1, some v2, some v3, some v4, some v5, some v6, some v7, some v8, none, some v10, none, some v12, none, none, none]) ?_ rfl
    have h1 := Dv_mono s14 h1
    have h2 := Dv_mono s14 h2
    have h5 := Dv_mono s14 h5
    have h10 := Dv_mono s14 h10
    have h12 := Dv_mono s14 h12
    -- due + [list(points(spans)), ..]
    refine sw_setD (d := .list (Z ++ [.list ((cuts ss).map tupI), .list ((grains ss).map encG), encS (byFlags ss rs), encS (byFlags ss rs)])) 5 nd
      (PD.eq (pd_cat (fs := [encS (byFlags ss rs), encS (byFlags ss rs)]) (pd_cat (pd_var 5 rfl h5) (pd_lst (pds_cons (pd_list B (pd_call F_points (hr.mono (by decide)) (pds_one (pd_var 10 rfl h10)) ⟨_, ss, rfl, .inr rfl, ok_all, rfl⟩) .t) (pds_one (pd_call F_grains (hr.mono (by decide)) (pds_one (pd_var 10 rfl h10)) ⟨ss, rfl, ok_all, rfl⟩)))) (le_line (by rw [lz0]; rfl)))
        (PD.eq (pd_rep (es := [encS (byFlags ss rs)]) (n := 2) (pd_lst (pds_one (pd_call F_flags (hr.mono (by decide)) (pds_cons (pd_var 10 rfl h10) (pds_one (pd_var 12 rfl h12))) ⟨_, ss, _, rs, rfl, .inr rfl, ok_all, .inr rfl, fin_shaped frs, rfl⟩))) pd_int (by decide) (by decide) (le_line rfl)) rfl) (le_line (by rw [List.length_append, lz0]; rfl))) (by rw [List.append_assoc]; rfl)) fun v5 R15 s15 h5 => ?_
    refine sw_sig (σ2 := [some (V.ref t), some v1, some v2, some v3, some v4, some v5, some v6, some v7, some v8, none, some v10, none, some v12, none, none, none]) ?_ rfl
    have h1 := Dv_mono s15 h1
    have h2 := Dv_mono s15 h2
    have h4 := Dv_mono s15 h4
    have hgl := grains_len ok_all
    have fz1 : ∀ d ∈ Z ++ [.list ((cuts ss).map tupI), .list ((grains ss).map encG), encS (byFlags ss rs), encS (byFlags ss rs)], fin 7 d = true := by
      intro d hd
      rcases List.mem_append.mp hd with hd | hd
      · exact fz0 d hd
      · simp only [List.mem_cons, List.not_mem_nil, or_false] at hd
        rcases hd with rfl | rfl | rfl | rfl
        · exact fin_mono (n := 2) (fin_l.mpr ⟨by rw [List.length_map]; have := cuts_len ss; have := ok_all.few; omega, fun d hd => (by
            obtain ⟨v, hv, rfl⟩ := List.mem_map.mp hd
            exact fin_tupI (cuts_ok ok_all v hv).2)⟩) (by decide)
        · exact fin_mono (n := 3) (fin_l.mpr ⟨by rw [List.length_map]; omega, fun d hd => (by
            obtain ⟨g, hg, rfl⟩ := List.mem_map.mp hd
            exact fin_encG (grains_ok ok_all g hg))⟩) (by decide)
        · exact fin_mono (fin_flags ok_all rs) (by decide)
        · exact fin_mono (fin_flags ok_all rs) (by decide)
    have lz1 : (Z ++ [.list ((cuts ss).map tupI), .list ((grains ss).map encG), encS (byFlags ss rs), encS (byFlags ss rs)]).length = 19 := by rw [List.length_append, lz0]; rfl
    generalize Z ++ [PyData.list ((cuts ss).map tupI), PyData.list ((grains ss).map encG), encS (byFlags ss rs), encS (byFlags ss rs)] = Z1 at h4 h5 fz1 lz1
    -- pairs
    refine sw_set 13 nd (W := fun m d => m ≤ n + 90 ∧ ∃ ps : Span, d = encS ps ∧ ps.length ≤ 6 ∧ ∀ v ∈ endsS ps, v ∈ line)
      (ew_draw (i := 0) (Ws := fun k ds => k = m13 ∧ ds = []) F_dpairs (hr.mono (by decide)) rfl (ews_nil ⟨rfl, rfl⟩) fun k ds e => by
        obtain ⟨e1, e2⟩ := e
        subst e2
        rw [e1]
        exact ⟨by omega, ⟨m13 + 13, .tuple [], rfl, rfl, [], rfl, by decide, fun v hv => nomatch hv⟩, fun i d h => ⟨by have := h.2.1; omega, h.2.2⟩⟩) fun v13 R16 m16 d16 s16 h13 e16 => ?_
    refine sw_sig (σ2 := [some (V.ref t), some v1, some v2, some v3, some v4, some v5, some v6, some v7, some v8, none, some v10, none, some v12, some v13, none, none]) ?_ rfl
    obtain ⟨em16, ps, ed, hpl, hpo⟩ := e16
    subst ed
    have h1 := Dv_mono s16 h1
    have h2 := Dv_mono s16 h2
    have h4 := Dv_mono s16 h4
    have h5 := Dv_mono s16 h5
    have ok_ps : SsOk [ps] := ssOk_line (fun x hx => by rw [List.mem_singleton.mp hx]; exact ⟨hpo, hpl⟩) (Nat.le_of_ble_eq_true rfl)
    have fps : fin 3 (encS ps) = true := fin_encS (fun p hp => ok_ps.pok List.mem_cons_self hp) (by omega)
    have tps := tupM_noL _ (noL_encS ps)
    have tlps : tupM (lisM (encS ps)) = encS ps := (tupM_lisM _).trans tps
    -- got + [range_of(pairs), range_of(lists(pairs))]
    refine sw_setD (d := .list (Z1 ++ [encS (rangeOf ps), encS (rangeOf ps)])) 4 nd
      (pd_cat (pd_var 4 rfl h4) (pd_lst (pds_cons (pd_call F_range_of (hr.mono (by decide)) (pds_one (pd_var 13 rfl h13)) ⟨_, ps, rfl, fps, tps, ok_ps, rfl⟩)
        (pds_one (pd_call F_range_of (hr.mono (by decide)) (pds_one (pd_call F_lists (hr.mono (by decide)) (pds_one (pd_var 13 rfl h13)) ⟨_, rfl, fin_mono fps (by decide), rfl⟩)) ⟨_, ps, rfl, fin_lisM 3 _ fps, tlps, ok_ps, rfl⟩)))) (le_line (by rw [lz1]; rfl))) fun v4 R17 s17 h4 => ?_
    refine sw_sig (σ2 := [some (V.ref t), some v1, some v2, some v3, some v4, some v5, some v6, some v7, some v8, none, some v10, none, some v12, some v13, none, none]) ?_ rfl
    have h1 := Dv_mono s17 h1
    have h2 := Dv_mono s17 h2
    have h5 := Dv_mono s17 h5
    have h13 := Dv_mono s17 h13
    -- points
    refine sw_setD 14 nd (pd_call F_points (hr.mono (by decide)) (pds_one (pd_lst (pds_one (pd_var 13 rfl h13)))) ⟨_, [ps], rfl, .inl rfl, ok_ps, rfl⟩) fun v14 R18 s18 h14 => ?_
    refine sw_sig (σ2 := [some (V.ref t), some v1, some v2, some v3, some v4, some v5, some v6, some v7, some v8, none, some v10, none, some v12, some v13, some v14, none]) ?_ rfl
    have h1 := Dv_mono s18 h1
    have h2 := Dv_mono s18 h2
    have h4 := Dv_mono s18 h4
    have h5 := Dv_mono s18 h5
    have h13 := Dv_mono s18 h13
    have hcp : (cuts [ps]).length ≤ 63 := Nat.le_trans (cuts_len _) (by have := ok_ps.few; omega)
    -- due + [span_of(..)] * 2
    refine sw_setD (d := .list (Z1 ++ [encS (rangeOf ps), encS (rangeOf ps)])) 5 nd
      (pd_cat (fs := [encS (rangeOf ps), encS (rangeOf ps)]) (pd_var 5 rfl h5) (PD.eq (pd_rep (es := [encS (rangeOf ps)]) (n := 2) (pd_lst (pds_one (PD.eq (pd_call F_span_of (hr.mono (by decide)) (pds_cons (PD.eq (pd_lcT (l := cuts [ps]) (enc := tupI) (own := [("_law_own", 9)]) (g := gName 9) (f := fun p => some (.bool (inn ps p))) rfl nd (pid_seq (pd_var 14 rfl h14) .t) (blkOk_by (by show blkC n_law_right (defScope s_law_right) _ _ = true; decide +kernel)) (Nat.le_trans hcp (by decide)) (fun _ _ _ _ _ => pg_name (i := 9) nd rfl (Or.inl rfl))
          (fun p v Ra Ha kk hd sa sb dv q2 => q2 _ rfl (lcb_all fun _ _ _ _ _ => pd_call F_held (hr.mono (by decide)) (pds_cons (pd_var 13 rfl (Dv_mono sa h13)) (pds_one (pd_var 9 rfl dv))) ⟨ps, p, rfl, by omega, rfl⟩))) (flag_enc _ _)) (pds_one (pd_var 14 rfl h14))) ⟨flagged (fun p => inn ps p) (cuts [ps]), _, rfl, .inr (flag_pts _ _), by unfold flagged; rw [List.length_map]; omega, rfl⟩) (congrArg encS (rangeOf_eq (up_line hpo)).symm)))) pd_int (by decide) (by decide) (le_line rfl)) rfl) (le_line (by rw [lz1]; rfl))) fun v5 R19 s19 h5 => ?_
    refine sw_sig (σ2 := [some (V.ref t), some v1, some v2, some v3, some v4, some v5, some v6, some v7, some v8, none, some v10, none, some v12, some v13, some v14, none]) ?_ rfl
    have h1 := Dv_mono s19 h1
    have h2 := Dv_mono s19 h2
    have h4 := Dv_mono s19 h4
    have h13 := Dv_mono s19 h13
    have okro : fin 7 (encS (rangeOf ps)) = true := by
      have := fin_range_of ok_ps
      exact fin_mono this (by decide)
    have fz2 : ∀ d ∈ Z1 ++ [encS (rangeOf ps), encS (rangeOf ps)], fin 7 d = true := by
      intro d hd
      rcases List.mem_append.mp hd with hd | hd
      · exact fz1 d hd
      · simp only [List.mem_cons, List.not_mem_nil, or_false] at hd
        rcases hd with rfl | rfl
        · exact okro
        · exact okro
    have lz2 : (Z1 ++ [encS (rangeOf ps), encS (rangeOf ps)]).length = 21 := by rw [List.length_append, lz1]; rfl
    generalize Z1 ++ [encS (rangeOf ps), encS (rangeOf ps)] = Z2 at h4 h5 fz2 lz2
    -- things
    refine sw_set 15 nd (W := fun m d => ∃ b1 b2, d = .list [encS s, encS u, b1, b2, encS ps, .none, .tuple [encS s]] ∧ fin 8 b1 = true ∧ fin 8 b2 = true)
      (ew_lst (Ws := fun m ds => ∃ b1 b2, ds = [encS s, encS u, b1, b2, encS ps, .none, .tuple [encS s]] ∧ fin 8 b1 = true ∧ fin 8 b2 = true)
        (ews_cons (W := fun m d => m = m16 ∧ d = encS s) (Ws2 := fun _ _ m ds => ∃ b1 b2, ds = [encS u, b1, b2, encS ps, .none, .tuple [encS s]] ∧ fin 8 b1 = true ∧ fin 8 b2 = true) (ew_pd (pd_var 1 rfl h1) ⟨rfl, rfl⟩)
          (fun m d e => ews_cons (W := fun m d => m = m16 ∧ d = encS u) (Ws2 := fun _ _ m ds => ∃ b1 b2, ds = [b1, b2, encS ps, .none, .tuple [encS s]] ∧ fin 8 b1 = true ∧ fin 8 b2 = true) (ew_pd (pd_var 2 rfl h2) ⟨e.1, rfl⟩)
            (fun m d e => ews_cons (W := fun m d => m = m16 + 2 ∧ fin 8 d = true) (Ws2 := fun _ _ m ds => ∃ b2, ds = [b2, encS ps, .none, .tuple [encS s]] ∧ fin 8 b2 = true)
                (ew_draw (i := 0) (Ws := fun k ds => k = m16 ∧ ds = [encS s]) F_bent (hr.mono (by decide)) rfl (ews_one (W := fun k d => k = m16 ∧ d = encS s) (ew_pd (pd_var 1 rfl h1) ⟨e.1, rfl⟩) fun k d e => ⟨e.1, by rw [e.2]⟩) fun k ds e => by
                  obtain ⟨e1, e2⟩ := e
                  subst e2
                  rw [e1]
                  refine ⟨by omega, ⟨m16 + 2, .none, s, rfl, hs, rfl, rfl⟩, fun i d h => ?_⟩
                  obtain ⟨_, _, _, h3, h4⟩ := h
                  exact ⟨h3, h4⟩)
              (fun m d e => ews_cons (W := fun m d => m = m16 + 4 ∧ fin 8 d = true) (Ws2 := fun _ _ m ds => ds = [encS ps, .none, .tuple [encS s]])
                  (ew_draw (i := 0) (Ws := fun k ds => k = m16 + 2 ∧ ds = [encS u]) F_bent (hr.mono (by decide)) rfl (ews_one (W := fun k d => k = m16 + 2 ∧ d = encS u) (ew_pd (pd_var 2 rfl h2) ⟨e.1, rfl⟩) fun k d e => ⟨e.1, by rw [e.2]⟩) fun k ds e => by
                    obtain ⟨e1, e2⟩ := e
                    subst e2
                    rw [e1]
                    refine ⟨by omega, ⟨m16 + 2 + 2, .none, u, rfl, hu, rfl, rfl⟩, fun i d h => ?_⟩
                    obtain ⟨_, _, _, h3, h4⟩ := h
                    exact ⟨h3, h4⟩)
                (fun m d e => ews_cons (W := fun m d => d = encS ps) (Ws2 := fun _ _ m ds => ds = [.none, .tuple [encS s]]) (ew_pd (pd_var 13 rfl h13) rfl)
                  (fun m d e => ews_cons (W := fun m d => d = .none) (Ws2 := fun _ _ m ds => ds = [.tuple [encS s]]) (ew_pd pd_non rfl) (fun m d e => ews_one (W := fun m d => d = .tuple [encS s]) (ew_pd (pd_tup (pds_one (pd_var 1 rfl h1))) rfl) fun m d e => by rw [e]) (fun m d k ds e e' => by rw [e, e']))
                  (fun m d k ds e e' => by rw [e, e']))
                (fun m d k ds e e' => ⟨d, by rw [e'], e.2⟩))
              (fun m d k ds e e' => by
                obtain ⟨b2, e2, e3⟩ := e'
                exact ⟨d, b2, by rw [e2], e.2, e3⟩))
            (fun m d k ds e e' => by
              obtain ⟨b1, b2, e2, e3⟩ := e'
              exact ⟨b1, b2, by rw [e.2, e2], e3⟩))
          (fun m d k ds e e' => by
            obtain ⟨b1, b2, e2, e3⟩ := e'
            exact ⟨b1, b2, by rw [e.2, e2], e3⟩))
        (fun m ds e => by
          obtain ⟨b1, b2, e2, e3⟩ := e
          exact ⟨by rw [e2]; exact Nat.le_of_ble_eq_true rfl, b1, b2, by rw [e2], e3⟩)) fun v15 R20 m20 d20 s20 h15 e20 => ?_
    refine sw_sig (σ2 := [some (V.ref t), some v1, some v2, some v3, some v4, some v5, some v6, some v7, some v8, none, some v10, none, some v12, some v13, some v14, some v15]) ?_ rfl
    obtain ⟨b1, b2, ed, hb1, hb2⟩ := e20
    subst ed
    have h4 := Dv_mono s20 h4
    have h5 := Dv_mono s20 h5
    obtain ⟨th, eth⟩ : ∃ th, th = [encS s, encS u, b1, b2, encS ps, .none, .tuple [encS s]] := ⟨_, rfl⟩
    rw [← eth] at h15
    have lth : th.length = 7 := by rw [eth]; rfl
    have fth : ∀ d ∈ th, fin 8 d = true := by
      intro d hd
      rw [eth] at hd
      simp only [List.mem_cons, List.not_mem_nil, or_false] at hd
      rcases hd with rfl | rfl | rfl | rfl | rfl | rfl | rfl
      · exact fin_mono fs (by decide)
      · exact fin_mono fu (by decide)
      · exact hb1
      · exact hb2
      · exact fin_mono fps (by decide)
      · rfl
      · exact fin_tup (n := 7) (Nat.le_of_ble_eq_true rfl) fun d hd => by rw [List.mem_singleton.mp hd]; exact fin_mono fs (by decide)
    have hll : Z2.length + (th.map fun d => PyData.bool (rangeM d)).length ≤ sizeLine := by rw [lz2, List.length_map, lth]; decide
    refine sw_retD (pd_call F_same (hr.mono (by decide)) (pds_cons (pd_cat (fs := th.map fun d => .bool (rangeM d)) (pd_var 4 rfl h4) (PD.eq (pd_lc (own := [("_law_own", 9)]) (g := gName 9) (f := fun d => some (.bool (rangeM d))) rfl nd (pid_seq (pd_var 15 rfl h15) .l) (blkOk_by (by show blkC n_law_right (defScope s_law_right) _ _ = true; decide +kernel)) (by rw [lth]; decide) (fun _ _ _ _ _ => pg_name (i := 9) nd rfl (Or.inl rfl))
        (fun d v Ra Ha kk hd sa sb dv q2 => q2 _ rfl (lcb_all fun _ _ _ _ _ => pd_callKW F_is_range (hr.mono (by decide)) (pd_var 9 rfl dv) ⟨d, rfl, fth d hd, rfl⟩))) (congrArg PyData.list (filterMap_some (fun d => PyData.bool (rangeM d)) th))) hll)
      (pds_one (pd_cat (fs := th.map fun d => .bool (rangeM d)) (pd_var 5 rfl h5) (PD.eq (pd_lc (own := [("_law_own", 9)]) (g := gName 9) (f := fun d => some (.bool (rangeM d))) rfl nd (pid_seq (pd_var 15 rfl h15) .l) (blkOk_by (by show blkC n_law_right (defScope s_law_right) _ _ = true; decide +kernel)) (by rw [lth]; decide) (fun _ _ _ _ _ => pg_name (i := 9) nd rfl (Or.inl rfl))
        (fun d v Ra Ha kk hd sa sb dv q2 => q2 _ rfl (lcb_all fun _ _ _ _ _ => pd_call F_is_span (hr.mono (by decide)) (pds_one (pd_var 9 rfl dv)) ⟨d, rfl, fth d hd, rfl⟩))) (congrArg PyData.list (filterMap_some (fun d => PyData.bool (rangeM d)) th))) hll))) ⟨_, rfl, fin_l.mpr ⟨by rw [List.length_append, lz2, List.length_map, lth]; decide, fun d hd => ?_⟩, rfl⟩) ⟨rfl, rfl⟩
    rcases List.mem_append.mp hd with hd | hd
    · exact fz2 d hd
    · obtain ⟨_, _, rfl⟩ := List.mem_map.mp hd
      rfl
end
end NF

set_option Elab.async false
set_option linter.all false
set_option maxRecDepth 100000
set_option maxHeartbeats 4000000
namespace NF
open PySem PySem.Spec PyProof.Rows L2
theorem Grow.unhid {R H R' H' : Hp} {l : Addr} (g : Grow R H R' (hid (some l) H')) : Grow R H R' H' := ⟨g.ext.trans (hid_le _ _), g.sub, g.inn.trans (hid_le _ _), g.new⟩
theorem hid_upd {H : Hp} {l : Addr} {o : HO} (h : H l = none) : hid (some l) (upd H l o) = H := by
  funext a
  by_cases e : a = l
  · rw [e, hid_self, h]
  · rw [hid_some e, upd_ne e]
def spLaw (K : PySem.W.Frag) : Sp := fun vs H Q _ => ∃ (a : Addr) (ns : List Int), vs = [.ref a] ∧ SqL K H a (ns.map V.int) ∧ ns.length ≤ 63 ∧ ∀ H', Q (.bl true) H'
section
variable {P : Program} {w : World} {K : PySem.W.Frag} {mg : Str → Option Value} {base : Heap}
/-- right(box(cells, k)) -/
theorem pd_rightbox {X : Cx} {σ : L2.St} {R : Hp} {a b : Expr} {ns : List Int} {k : Nat} {p1 p2 p3 p4 : Pos} (F1 : Df X.prog X.w X.K X.mg X.base 1 "_law_box" ["_law_script", "_law_k"] (spBox X.K)) (F2 : Df X.prog X.w X.K X.mg X.base 10 "_law_right" ["_law_tin"] (spW X.K pre_right 1000)) (hr : Room 10 X.A)
    (ha : PD X a σ R (.list (ns.map .int))) (hb : PD X b σ R (.int (k : Int))) (hk : k < ns.length) (hl : ns.length ≤ 10) (hg1 : Gl X "_law_right" := by rfl) (hg2 : Gl X "_law_box" := by rfl)
    (he1 : starEach [a, b] X.env = (false, eval a X.env) :: starEach [b] X.env := by rfl) (he2 : starEach [b] X.env = (false, eval b X.env) :: starEach [] X.env := by rfl) (hpl : (backTo p4 (starEach [b] X.env)).any (·.1) = false := by rfl)
    (he3 : starEach [.Call (.Name "_law_box" p3) [a, b] [] p4] X.env = (false, eval (.Call (.Name "_law_box" p3) [a, b] [] p4) X.env) :: starEach [] X.env := by rfl) :
    PD X (.Call (.Name "_law_right" p1) [.Call (.Name "_law_box" p3) [a, b] [] p4] [] p2) σ R (.bool true) := by
  obtain ⟨fa, fd, a1, b1, c1, g1⟩ := F1
  obtain ⟨fa2, fd2, a2, b2, c2, g2⟩ := F2
  refine .of (pe_call a2 hr hg1 b2 c2 g2 .nil pass0 (pa_cons (pe_call a1 (hr.mono (by decide)) hg2 b1 c1 g1 .nil pass0 (pa_pd (es := [a, b])) (by decide) he1 hpl) pa_nil he3) (by decide) he3) fun H Q sb q => ?_
  refine ⟨R, _, sb, pds_cons ha (pds_cons hb pds_nil he2) he1, fun vs H1 R1 g dvs => ?_⟩
  show spBox X.K (vs ++ []) H1 _ E0
  rw [List.append_nil]
  refine ⟨R1, ns, k, g.inn, dvs, hk, hl, fun l H2 R2 z1 z2 gg hl2 h1 h2 => ?_⟩
  show spW X.K pre_right 1000 ([V.ref l] ++ []) (upd H2 l _) Q E0
  refine ⟨l, [], 0, R2, [], rfl, by decide, ⟨z1, z2, 0, upd_same, h1, h2, by decide, by decide⟩, by rw [hid_upd hl2]; exact gg.inn, .nil, ⟨0, _, rfl, rfl⟩, fun v H3 R3 m d bx g3 dv h => ?_⟩
  rw [hid_upd hl2] at g3
  have ed : d = .bool true := h.2
  subst ed
  exact q v H3 R3 (((g.trans gg)).trans g3.unhid) dv
theorem law_ok {fa : Addr} {fd : FuncData} (F : Fun K "law" "law" s_law fa fd) (B : Blt mg) (F_hand : Df P w K mg base 10 "_law_by_hand_right" [] (spD K pre_hand)) (F_cells : Df P w K mg base 1 "_law_cells" ["_law_script", "_law_most_so"] (spCells K))
    (F_box : Df P w K mg base 1 "_law_box" ["_law_script", "_law_k"] (spBox K)) (F_right : Df P w K mg base 10 "_law_right" ["_law_tin"] (spW K pre_right 1000)) : FnOk P w K mg base CX0 11 fa fd ["_law_script"] (spLaw K) := by
  refine F.ok c_law (fun vs H Q E h => ?_) (fun cdv A outer s H vs Q E hr h => ?_)
  · obtain ⟨a, ns, rfl, _⟩ := h
    rfl
  · obtain ⟨a, ns, rfl, hS, hlen, k⟩ := h
    -- the script alone is read
    have e0 : Same (fun _ => none : Hp) H := fun _ _ e => nomatch e
    obtain ⟨R, sR, hR⟩ : ∃ R : Hp, Same R H ∧ SqL K R a (ns.map V.int) := by
      rcases hS with (h | ⟨o, h⟩) | h
      · refine ⟨upd (fun _ => none) a (.lst (ns.map V.int)), fun b u e => ?_, .inl (.inl upd_same)⟩
        by_cases q : b = a
        · subst q; rw [upd_same] at e; cases e; exact h
        · rw [upd_ne q] at e; cases e
      · refine ⟨upd (fun _ => none) a (.frz o (.lst (ns.map V.int))), fun b u e => ?_, .inl (.inr ⟨o, upd_same⟩)⟩
        by_cases q : b = a
        · subst q; rw [upd_same] at e; cases e; exact h
        · rw [upd_ne q] at e; cases e
      · exact ⟨fun _ => none, e0, Or.inr h⟩
    suffices body : SW (dcx P w K mg base n_law "law" (defScope s_law) fa cdv A outer s H E) none 0 (defBody s_law) (start n_law [.ref a]) R R R (fun _ _ _ => False) (fun _ d => d = .bool true) from
      ⟨_, pss_sw, none, 0, R, R, R, H, _, _, trivial, Grow.refl sR, Same.refl _, body, fun _ _ _ _ _ _ _ z => z.elim, fun v H' R' m e _ g dv' z => by
        subst z
        cases dv'
        exact k H'⟩
    refine sw_ifR (b := false) (PTD.eq (ptd_not (ptd (pd_call0 F_hand hr ⟨rfl, rfl⟩))) rfl) (fun z => by cases z) fun _ R1 s1 => ?_
    obtain ⟨fc, fdc, a1, b1, c1, g1⟩ := F_cells
    refine sw_set 1 c_law.nd (W := fun m d => ∃ ms : List Int, d = .list (ms.map .int) ∧ 1 ≤ ms.length ∧ ms.length ≤ 2) (EW.of (pe_call a1 (hr.mono (by decide)) (by rfl) b1 c1 g1 .nil pass0 (pa_cons (pv 0) (pa_cons pe_int pa_nil)) (by decide)) fun Hx Q bx sb q => ?_) fun v1 R2 m d s2 h1 hd => ?_
    · refine ⟨.ref a, rfl, ?_⟩
      show spCells K ([V.ref a, .int 2] ++ []) Hx Q E0
      exact ⟨R1, a, ns, rfl, sb, s1.seq hR, hlen, fun v H' R' ms g dv e1 e2 => q v H' R' 0 _ trivial g dv ⟨ms, rfl, e1, e2⟩⟩
    · obtain ⟨ms, rfl, l1, l2⟩ := hd
      refine sw_retD (pd_all (bs := (List.range ms.length).map fun _ => true) rfl B (PD.eq (pd_lcT (l := List.range ms.length) (enc := fun i => .int ((i : Nat) : Int)) (own := [("_law_k", 2)]) (g := gName 2) (f := fun _ => some (.bool true)) rfl c_law.nd (pid_range B (n := (ms.length : Int)) (PD.eq (pd_len B (pd_var 1 rfl h1) .l) (by rw [List.length_map])) (by omega) (by omega)) (blkOk_by (by show blkC n_law (defScope s_law) _ _ = true; decide +kernel)) (by rw [List.length_range]; exact Nat.le_trans l2 (by decide)) (fun _ _ _ _ _ => pg_name (i := 2) c_law.nd rfl (Or.inl rfl))
        (fun i v Ra Ha kk hi sa sb dv q2 => q2 _ rfl (lcb_all fun _ _ _ _ _ => pd_rightbox (ns := ms) F_box F_right hr (pd_var 1 rfl (Dv_mono sa h1)) (pd_var 2 rfl dv) (List.mem_range.mp hi) (by omega)))) ?_)) ?_
      · rw [filterMap_some (fun _ : Nat => PyData.bool true), List.map_map]
        rfl
      · rw [all_true]
end
theorem at_mk {K : PySem.W.Frag} {h : Heap} {mg : Str → Option Value} {x : Str} {st : Stmt} {ps : List Str} {f : Addr} {od an : Option Addr} {sl : Array (Option Value)} {oc kV dc pm cd ct : Value} (X : K.In h) (G : h.Ns mainGlobals mg)
    (b : ∀ (kV doc pm : Value) (an : Option Addr) (cdv ct : Value) (us : List Value), us.length = ps.length → bindArgs (PySem.W.fnOf x x (defArgs st) (defBody st) (defScope st) .none kV doc pm an cdv ct) ⟨us, []⟩ = pure (ps.zip us))
    (a : PySem.W.nsIn K mainGlobals x = some (some (.ref f))) (l : K.lookup f = some ⟨oc, od, .func (PySem.W.fnOf x x (defArgs st) (defBody st) (defScope st) .none kV dc pm an cd ct), sl⟩) (c : PySem.W.codeIn K cd x = true) (k : PySem.W.keepIn K (.ref f) = true) : At K mg x st ps :=
  ⟨f, _, fun_mk l c k, PySem.W.mg_of X G a, (fun_mk l c k).binds b⟩
theorem first_mk {K : PySem.W.Frag} {h : Heap} {mg : Str → Option Value} {a : Addr} {od : Option Addr} {its : Array Value} {n : Nat} {sl : Array (Option Value)} {e : Value} (X : K.In h) (G : h.Ns mainGlobals mg) (a1 : PySem.W.nsIn K mainGlobals "FIRST" = some (some (.ref a))) (l1 : K.lookup a = some ⟨.type "tuple", od, .seq its n, sl⟩)
    (v : Vals (first.map V.int) its.toList) (a2 : PySem.W.nsIn K mainGlobals "EARLIEST" = some (some e)) (r : RelV (.int (-9)) e) : Gls K mg :=
  ⟨⟨a, PySem.W.mg_of X G a1, fun H => .inr ⟨_, its, n, l1, rfl, rfl, by rw [← Array.length_toList, ← v.length, List.length_map]; decide, v⟩⟩, e, PySem.W.mg_of X G a2, r⟩
theorem at_tupled {K : PySem.W.Frag} {h : Heap} {mg : Str → Option Value} {f : Addr} {od an : Option Addr} {sl : Array (Option Value)} {oc kV dc pm cd ct : Value} (X : K.In h) (G : h.Ns mainGlobals mg)
    (a : PySem.W.nsIn K mainGlobals "tupled" = some (some (.ref f))) (l : K.lookup f = some ⟨oc, od, .func (PySem.W.fnOf "tupled" "tupled" (defArgs s_tupled) (defBody s_tupled) (defScope s_tupled) .none kV dc pm an cd ct), sl⟩) (c : PySem.W.codeIn K cd "tupled" = true) (k : PySem.W.keepIn K (.ref f) = true) : At K mg "tupled" s_tupled ["thing"] :=
  at_mk X G (fun _ _ _ _ _ _ us hl => match us, hl with | [_], _ => rfl) a l c k
theorem at_is_number {K : PySem.W.Frag} {h : Heap} {mg : Str → Option Value} {f : Addr} {od an : Option Addr} {sl : Array (Option Value)} {oc kV dc pm cd ct : Value} (X : K.In h) (G : h.Ns mainGlobals mg)
    (a : PySem.W.nsIn K mainGlobals "is_number" = some (some (.ref f))) (l : K.lookup f = some ⟨oc, od, .func (PySem.W.fnOf "is_number" "is_number" (defArgs s_is_number) (defBody s_is_number) (defScope s_is_number) .none kV dc pm an cd ct), sl⟩) (c : PySem.W.codeIn K cd "is_number" = true) (k : PySem.W.keepIn K (.ref f) = true) : At K mg "is_number" s_is_number ["thing"] :=
  at_mk X G (fun _ _ _ _ _ _ us hl => match us, hl with | [_], _ => rfl) a l c k
theorem at_is_tuple_of {K : PySem.W.Frag} {h : Heap} {mg : Str → Option Value} {f : Addr} {od an : Option Addr} {sl : Array (Option Value)} {oc kV dc pm cd ct : Value} (X : K.In h) (G : h.Ns mainGlobals mg)
    (a : PySem.W.nsIn K mainGlobals "is_tuple_of" = some (some (.ref f))) (l : K.lookup f = some ⟨oc, od, .func (PySem.W.fnOf "is_tuple_of" "is_tuple_of" (defArgs s_is_tuple_of) (defBody s_is_tuple_of) (defScope s_is_tuple_of) .none kV dc pm an cd ct), sl⟩) (c : PySem.W.codeIn K cd "is_tuple_of" = true) (k : PySem.W.keepIn K (.ref f) = true) : At K mg "is_tuple_of" s_is_tuple_of ["thing", "size"] :=
  at_mk X G (fun _ _ _ _ _ _ us hl => match us, hl with | [_, _], _ => rfl) a l c k
theorem at_is_version {K : PySem.W.Frag} {h : Heap} {mg : Str → Option Value} {f : Addr} {od an : Option Addr} {sl : Array (Option Value)} {oc kV dc pm cd ct : Value} (X : K.In h) (G : h.Ns mainGlobals mg)
    (a : PySem.W.nsIn K mainGlobals "is_version" = some (some (.ref f))) (l : K.lookup f = some ⟨oc, od, .func (PySem.W.fnOf "is_version" "is_version" (defArgs s_is_version) (defBody s_is_version) (defScope s_is_version) .none kV dc pm an cd ct), sl⟩) (c : PySem.W.codeIn K cd "is_version" = true) (k : PySem.W.keepIn K (.ref f) = true) : At K mg "is_version" s_is_version ["thing"] :=
  at_mk X G (fun _ _ _ _ _ _ us hl => match us, hl with | [_], _ => rfl) a l c k
theorem at_is_span_pair {K : PySem.W.Frag} {h : Heap} {mg : Str → Option Value} {f : Addr} {od an : Option Addr} {sl : Array (Option Value)} {oc kV dc pm cd ct : Value} (X : K.In h) (G : h.Ns mainGlobals mg)
    (a : PySem.W.nsIn K mainGlobals "is_span_pair" = some (some (.ref f))) (l : K.lookup f = some ⟨oc, od, .func (PySem.W.fnOf "is_span_pair" "is_span_pair" (defArgs s_is_span_pair) (defBody s_is_span_pair) (defScope s_is_span_pair) .none kV dc pm an cd ct), sl⟩) (c : PySem.W.codeIn K cd "is_span_pair" = true) (k : PySem.W.keepIn K (.ref f) = true) : At K mg "is_span_pair" s_is_span_pair ["thing"] :=
  at_mk X G (fun _ _ _ _ _ _ us hl => match us, hl with | [_], _ => rfl) a l c k
theorem at_is_range {K : PySem.W.Frag} {h : Heap} {mg : Str → Option Value} {f : Addr} {od an : Option Addr} {sl : Array (Option Value)} {oc kV dc pm cd ct : Value} (X : K.In h) (G : h.Ns mainGlobals mg)
    (a : PySem.W.nsIn K mainGlobals "is_range" = some (some (.ref f))) (l : K.lookup f = some ⟨oc, od, .func (PySem.W.fnOf "is_range" "is_range" (defArgs s_is_range) (defBody s_is_range) (defScope s_is_range) .none kV dc pm an cd ct), sl⟩) (c : PySem.W.codeIn K cd "is_range" = true) (k : PySem.W.keepIn K (.ref f) = true) : At K mg "is_range" s_is_range ["thing"] :=
  at_mk X G (fun _ _ _ _ _ _ us hl => match us, hl with | [_], _ => rfl) a l c k
theorem at_pair_holds {K : PySem.W.Frag} {h : Heap} {mg : Str → Option Value} {f : Addr} {od an : Option Addr} {sl : Array (Option Value)} {oc kV dc pm cd ct : Value} (X : K.In h) (G : h.Ns mainGlobals mg)
    (a : PySem.W.nsIn K mainGlobals "pair_holds" = some (some (.ref f))) (l : K.lookup f = some ⟨oc, od, .func (PySem.W.fnOf "pair_holds" "pair_holds" (defArgs s_pair_holds) (defBody s_pair_holds) (defScope s_pair_holds) .none kV dc pm an cd ct), sl⟩) (c : PySem.W.codeIn K cd "pair_holds" = true) (k : PySem.W.keepIn K (.ref f) = true) : At K mg "pair_holds" s_pair_holds ["pair", "version"] :=
  at_mk X G (fun _ _ _ _ _ _ us hl => match us, hl with | [_, _], _ => rfl) a l c k
theorem at_span_holds {K : PySem.W.Frag} {h : Heap} {mg : Str → Option Value} {f : Addr} {od an : Option Addr} {sl : Array (Option Value)} {oc kV dc pm cd ct : Value} (X : K.In h) (G : h.Ns mainGlobals mg)
    (a : PySem.W.nsIn K mainGlobals "span_holds" = some (some (.ref f))) (l : K.lookup f = some ⟨oc, od, .func (PySem.W.fnOf "span_holds" "span_holds" (defArgs s_span_holds) (defBody s_span_holds) (defScope s_span_holds) .none kV dc pm an cd ct), sl⟩) (c : PySem.W.codeIn K cd "span_holds" = true) (k : PySem.W.keepIn K (.ref f) = true) : At K mg "span_holds" s_span_holds ["span", "version"] :=
  at_mk X G (fun _ _ _ _ _ _ us hl => match us, hl with | [_, _], _ => rfl) a l c k
theorem at_cuts_in {K : PySem.W.Frag} {h : Heap} {mg : Str → Option Value} {f : Addr} {od an : Option Addr} {sl : Array (Option Value)} {oc kV dc pm cd ct : Value} (X : K.In h) (G : h.Ns mainGlobals mg)
    (a : PySem.W.nsIn K mainGlobals "cuts_in" = some (some (.ref f))) (l : K.lookup f = some ⟨oc, od, .func (PySem.W.fnOf "cuts_in" "cuts_in" (defArgs s_cuts_in) (defBody s_cuts_in) (defScope s_cuts_in) .none kV dc pm an cd ct), sl⟩) (c : PySem.W.codeIn K cd "cuts_in" = true) (k : PySem.W.keepIn K (.ref f) = true) : At K mg "cuts_in" s_cuts_in ["spans"] :=
  at_mk X G (fun _ _ _ _ _ _ us hl => match us, hl with | [_], _ => rfl) a l c k
theorem at_range_cuts {K : PySem.W.Frag} {h : Heap} {mg : Str → Option Value} {f : Addr} {od an : Option Addr} {sl : Array (Option Value)} {oc kV dc pm cd ct : Value} (X : K.In h) (G : h.Ns mainGlobals mg)
    (a : PySem.W.nsIn K mainGlobals "range_cuts" = some (some (.ref f))) (l : K.lookup f = some ⟨oc, od, .func (PySem.W.fnOf "range_cuts" "range_cuts" (defArgs s_range_cuts) (defBody s_range_cuts) (defScope s_range_cuts) .none kV dc pm an cd ct), sl⟩) (c : PySem.W.codeIn K cd "range_cuts" = true) (k : PySem.W.keepIn K (.ref f) = true) : At K mg "range_cuts" s_range_cuts ["spans"] :=
  at_mk X G (fun _ _ _ _ _ _ us hl => match us, hl with | [_], _ => rfl) a l c k
theorem at_stretches {K : PySem.W.Frag} {h : Heap} {mg : Str → Option Value} {f : Addr} {od an : Option Addr} {sl : Array (Option Value)} {oc kV dc pm cd ct : Value} (X : K.In h) (G : h.Ns mainGlobals mg)
    (a : PySem.W.nsIn K mainGlobals "stretches" = some (some (.ref f))) (l : K.lookup f = some ⟨oc, od, .func (PySem.W.fnOf "stretches" "stretches" (defArgs s_stretches) (defBody s_stretches) (defScope s_stretches) .none kV dc pm an cd ct), sl⟩) (c : PySem.W.codeIn K cd "stretches" = true) (k : PySem.W.keepIn K (.ref f) = true) : At K mg "stretches" s_stretches ["cuts"] :=
  at_mk X G (fun _ _ _ _ _ _ us hl => match us, hl with | [_], _ => rfl) a l c k
theorem at_spans_holding {K : PySem.W.Frag} {h : Heap} {mg : Str → Option Value} {f : Addr} {od an : Option Addr} {sl : Array (Option Value)} {oc kV dc pm cd ct : Value} (X : K.In h) (G : h.Ns mainGlobals mg)
    (a : PySem.W.nsIn K mainGlobals "spans_holding" = some (some (.ref f))) (l : K.lookup f = some ⟨oc, od, .func (PySem.W.fnOf "spans_holding" "spans_holding" (defArgs s_spans_holding) (defBody s_spans_holding) (defScope s_spans_holding) .none kV dc pm an cd ct), sl⟩) (c : PySem.W.codeIn K cd "spans_holding" = true) (k : PySem.W.keepIn K (.ref f) = true) : At K mg "spans_holding" s_spans_holding ["spans", "version"] :=
  at_mk X G (fun _ _ _ _ _ _ us hl => match us, hl with | [_, _], _ => rfl) a l c k
theorem at_grains_in {K : PySem.W.Frag} {h : Heap} {mg : Str → Option Value} {f : Addr} {od an : Option Addr} {sl : Array (Option Value)} {oc kV dc pm cd ct : Value} (X : K.In h) (G : h.Ns mainGlobals mg)
    (a : PySem.W.nsIn K mainGlobals "grains_in" = some (some (.ref f))) (l : K.lookup f = some ⟨oc, od, .func (PySem.W.fnOf "grains_in" "grains_in" (defArgs s_grains_in) (defBody s_grains_in) (defScope s_grains_in) .none kV dc pm an cd ct), sl⟩) (c : PySem.W.codeIn K cd "grains_in" = true) (k : PySem.W.keepIn K (.ref f) = true) : At K mg "grains_in" s_grains_in ["spans"] :=
  at_mk X G (fun _ _ _ _ _ _ us hl => match us, hl with | [_], _ => rfl) a l c k
theorem at_range_grains {K : PySem.W.Frag} {h : Heap} {mg : Str → Option Value} {f : Addr} {od an : Option Addr} {sl : Array (Option Value)} {oc kV dc pm cd ct : Value} (X : K.In h) (G : h.Ns mainGlobals mg)
    (a : PySem.W.nsIn K mainGlobals "range_grains" = some (some (.ref f))) (l : K.lookup f = some ⟨oc, od, .func (PySem.W.fnOf "range_grains" "range_grains" (defArgs s_range_grains) (defBody s_range_grains) (defScope s_range_grains) .none kV dc pm an cd ct), sl⟩) (c : PySem.W.codeIn K cd "range_grains" = true) (k : PySem.W.keepIn K (.ref f) = true) : At K mg "range_grains" s_range_grains ["spans"] :=
  at_mk X G (fun _ _ _ _ _ _ us hl => match us, hl with | [_], _ => rfl) a l c k
theorem at_pairs_joined {K : PySem.W.Frag} {h : Heap} {mg : Str → Option Value} {f : Addr} {od an : Option Addr} {sl : Array (Option Value)} {oc kV dc pm cd ct : Value} (X : K.In h) (G : h.Ns mainGlobals mg)
    (a : PySem.W.nsIn K mainGlobals "pairs_joined" = some (some (.ref f))) (l : K.lookup f = some ⟨oc, od, .func (PySem.W.fnOf "pairs_joined" "pairs_joined" (defArgs s_pairs_joined) (defBody s_pairs_joined) (defScope s_pairs_joined) .none kV dc pm an cd ct), sl⟩) (c : PySem.W.codeIn K cd "pairs_joined" = true) (k : PySem.W.keepIn K (.ref f) = true) : At K mg "pairs_joined" s_pairs_joined ["pairs"] :=
  at_mk X G (fun _ _ _ _ _ _ us hl => match us, hl with | [_], _ => rfl) a l c k
theorem at_by_rows {K : PySem.W.Frag} {h : Heap} {mg : Str → Option Value} {f : Addr} {od an : Option Addr} {sl : Array (Option Value)} {oc kV dc pm cd ct : Value} (X : K.In h) (G : h.Ns mainGlobals mg)
    (a : PySem.W.nsIn K mainGlobals "by_rows" = some (some (.ref f))) (l : K.lookup f = some ⟨oc, od, .func (PySem.W.fnOf "by_rows" "by_rows" (defArgs s_by_rows) (defBody s_by_rows) (defScope s_by_rows) .none kV dc pm an cd ct), sl⟩) (c : PySem.W.codeIn K cd "by_rows" = true) (k : PySem.W.keepIn K (.ref f) = true) : At K mg "by_rows" s_by_rows ["spans", "rows"] :=
  at_mk X G (fun _ _ _ _ _ _ us hl => match us, hl with | [_, _], _ => rfl) a l c k
theorem at_range_of {K : PySem.W.Frag} {h : Heap} {mg : Str → Option Value} {f : Addr} {od an : Option Addr} {sl : Array (Option Value)} {oc kV dc pm cd ct : Value} (X : K.In h) (G : h.Ns mainGlobals mg)
    (a : PySem.W.nsIn K mainGlobals "range_of" = some (some (.ref f))) (l : K.lookup f = some ⟨oc, od, .func (PySem.W.fnOf "range_of" "range_of" (defArgs s_range_of) (defBody s_range_of) (defScope s_range_of) .none kV dc pm an cd ct), sl⟩) (c : PySem.W.codeIn K cd "range_of" = true) (k : PySem.W.keepIn K (.ref f) = true) : At K mg "range_of" s_range_of ["pairs"] :=
  at_mk X G (fun _ _ _ _ _ _ us hl => match us, hl with | [_], _ => rfl) a l c k
theorem at_both_of {K : PySem.W.Frag} {h : Heap} {mg : Str → Option Value} {f : Addr} {od an : Option Addr} {sl : Array (Option Value)} {oc kV dc pm cd ct : Value} (X : K.In h) (G : h.Ns mainGlobals mg)
    (a : PySem.W.nsIn K mainGlobals "both_of" = some (some (.ref f))) (l : K.lookup f = some ⟨oc, od, .func (PySem.W.fnOf "both_of" "both_of" (defArgs s_both_of) (defBody s_both_of) (defScope s_both_of) .none kV dc pm an cd ct), sl⟩) (c : PySem.W.codeIn K cd "both_of" = true) (k : PySem.W.keepIn K (.ref f) = true) : At K mg "both_of" s_both_of ["one", "other"] :=
  at_mk X G (fun _ _ _ _ _ _ us hl => match us, hl with | [_, _], _ => rfl) a l c k
theorem at_either_of {K : PySem.W.Frag} {h : Heap} {mg : Str → Option Value} {f : Addr} {od an : Option Addr} {sl : Array (Option Value)} {oc kV dc pm cd ct : Value} (X : K.In h) (G : h.Ns mainGlobals mg)
    (a : PySem.W.nsIn K mainGlobals "either_of" = some (some (.ref f))) (l : K.lookup f = some ⟨oc, od, .func (PySem.W.fnOf "either_of" "either_of" (defArgs s_either_of) (defBody s_either_of) (defScope s_either_of) .none kV dc pm an cd ct), sl⟩) (c : PySem.W.codeIn K cd "either_of" = true) (k : PySem.W.keepIn K (.ref f) = true) : At K mg "either_of" s_either_of ["one", "other"] :=
  at_mk X G (fun _ _ _ _ _ _ us hl => match us, hl with | [_, _], _ => rfl) a l c k
theorem at_all_but {K : PySem.W.Frag} {h : Heap} {mg : Str → Option Value} {f : Addr} {od an : Option Addr} {sl : Array (Option Value)} {oc kV dc pm cd ct : Value} (X : K.In h) (G : h.Ns mainGlobals mg)
    (a : PySem.W.nsIn K mainGlobals "all_but" = some (some (.ref f))) (l : K.lookup f = some ⟨oc, od, .func (PySem.W.fnOf "all_but" "all_but" (defArgs s_all_but) (defBody s_all_but) (defScope s_all_but) .none kV dc pm an cd ct), sl⟩) (c : PySem.W.codeIn K cd "all_but" = true) (k : PySem.W.keepIn K (.ref f) = true) : At K mg "all_but" s_all_but ["span"] :=
  at_mk X G (fun _ _ _ _ _ _ us hl => match us, hl with | [_], _ => rfl) a l c k
theorem at_taken_out {K : PySem.W.Frag} {h : Heap} {mg : Str → Option Value} {f : Addr} {od an : Option Addr} {sl : Array (Option Value)} {oc kV dc pm cd ct : Value} (X : K.In h) (G : h.Ns mainGlobals mg)
    (a : PySem.W.nsIn K mainGlobals "taken_out" = some (some (.ref f))) (l : K.lookup f = some ⟨oc, od, .func (PySem.W.fnOf "taken_out" "taken_out" (defArgs s_taken_out) (defBody s_taken_out) (defScope s_taken_out) .none kV dc pm an cd ct), sl⟩) (c : PySem.W.codeIn K cd "taken_out" = true) (k : PySem.W.keepIn K (.ref f) = true) : At K mg "taken_out" s_taken_out ["one", "other"] :=
  at_mk X G (fun _ _ _ _ _ _ us hl => match us, hl with | [_, _], _ => rfl) a l c k
theorem at_is_inside {K : PySem.W.Frag} {h : Heap} {mg : Str → Option Value} {f : Addr} {od an : Option Addr} {sl : Array (Option Value)} {oc kV dc pm cd ct : Value} (X : K.In h) (G : h.Ns mainGlobals mg)
    (a : PySem.W.nsIn K mainGlobals "is_inside" = some (some (.ref f))) (l : K.lookup f = some ⟨oc, od, .func (PySem.W.fnOf "is_inside" "is_inside" (defArgs s_is_inside) (defBody s_is_inside) (defScope s_is_inside) .none kV dc pm an cd ct), sl⟩) (c : PySem.W.codeIn K cd "is_inside" = true) (k : PySem.W.keepIn K (.ref f) = true) : At K mg "is_inside" s_is_inside ["one", "other"] :=
  at_mk X G (fun _ _ _ _ _ _ us hl => match us, hl with | [_, _], _ => rfl) a l c k
theorem at_are_apart {K : PySem.W.Frag} {h : Heap} {mg : Str → Option Value} {f : Addr} {od an : Option Addr} {sl : Array (Option Value)} {oc kV dc pm cd ct : Value} (X : K.In h) (G : h.Ns mainGlobals mg)
    (a : PySem.W.nsIn K mainGlobals "are_apart" = some (some (.ref f))) (l : K.lookup f = some ⟨oc, od, .func (PySem.W.fnOf "are_apart" "are_apart" (defArgs s_are_apart) (defBody s_are_apart) (defScope s_are_apart) .none kV dc pm an cd ct), sl⟩) (c : PySem.W.codeIn K cd "are_apart" = true) (k : PySem.W.keepIn K (.ref f) = true) : At K mg "are_apart" s_are_apart ["one", "other"] :=
  at_mk X G (fun _ _ _ _ _ _ us hl => match us, hl with | [_, _], _ => rfl) a l c k
theorem at_parting_version {K : PySem.W.Frag} {h : Heap} {mg : Str → Option Value} {f : Addr} {od an : Option Addr} {sl : Array (Option Value)} {oc kV dc pm cd ct : Value} (X : K.In h) (G : h.Ns mainGlobals mg)
    (a : PySem.W.nsIn K mainGlobals "parting_version" = some (some (.ref f))) (l : K.lookup f = some ⟨oc, od, .func (PySem.W.fnOf "parting_version" "parting_version" (defArgs s_parting_version) (defBody s_parting_version) (defScope s_parting_version) .none kV dc pm an cd ct), sl⟩) (c : PySem.W.codeIn K cd "parting_version" = true) (k : PySem.W.keepIn K (.ref f) = true) : At K mg "parting_version" s_parting_version ["one", "other"] :=
  at_mk X G (fun _ _ _ _ _ _ us hl => match us, hl with | [_, _], _ => rfl) a l c k
theorem at_law_box {K : PySem.W.Frag} {h : Heap} {mg : Str → Option Value} {f : Addr} {od an : Option Addr} {sl : Array (Option Value)} {oc kV dc pm cd ct : Value} (X : K.In h) (G : h.Ns mainGlobals mg)
    (a : PySem.W.nsIn K mainGlobals "_law_box" = some (some (.ref f))) (l : K.lookup f = some ⟨oc, od, .func (PySem.W.fnOf "_law_box" "_law_box" (defArgs s_law_box) (defBody s_law_box) (defScope s_law_box) .none kV dc pm an cd ct), sl⟩) (c : PySem.W.codeIn K cd "_law_box" = true) (k : PySem.W.keepIn K (.ref f) = true) : At K mg "_law_box" s_law_box ["_law_script", "_law_k"] :=
  at_mk X G (fun _ _ _ _ _ _ us hl => match us, hl with | [_, _], _ => rfl) a l c k
theorem at_law_take {K : PySem.W.Frag} {h : Heap} {mg : Str → Option Value} {f : Addr} {od an : Option Addr} {sl : Array (Option Value)} {oc kV dc pm cd ct : Value} (X : K.In h) (G : h.Ns mainGlobals mg)
    (a : PySem.W.nsIn K mainGlobals "_law_take" = some (some (.ref f))) (l : K.lookup f = some ⟨oc, od, .func (PySem.W.fnOf "_law_take" "_law_take" (defArgs s_law_take) (defBody s_law_take) (defScope s_law_take) .none kV dc pm an cd ct), sl⟩) (c : PySem.W.codeIn K cd "_law_take" = true) (k : PySem.W.keepIn K (.ref f) = true) : At K mg "_law_take" s_law_take ["_law_tin", "_law_below_so"] :=
  at_mk X G (fun _ _ _ _ _ _ us hl => match us, hl with | [_, _], _ => rfl) a l c k
theorem at_law_cells {K : PySem.W.Frag} {h : Heap} {mg : Str → Option Value} {f : Addr} {od an : Option Addr} {sl : Array (Option Value)} {oc kV dc pm cd ct : Value} (X : K.In h) (G : h.Ns mainGlobals mg)
    (a : PySem.W.nsIn K mainGlobals "_law_cells" = some (some (.ref f))) (l : K.lookup f = some ⟨oc, od, .func (PySem.W.fnOf "_law_cells" "_law_cells" (defArgs s_law_cells) (defBody s_law_cells) (defScope s_law_cells) .none kV dc pm an cd ct), sl⟩) (c : PySem.W.codeIn K cd "_law_cells" = true) (k : PySem.W.keepIn K (.ref f) = true) : At K mg "_law_cells" s_law_cells ["_law_script", "_law_most_so"] :=
  at_mk X G (fun _ _ _ _ _ _ us hl => match us, hl with | [_, _], _ => rfl) a l c k
theorem at_law_of {K : PySem.W.Frag} {h : Heap} {mg : Str → Option Value} {f : Addr} {od an : Option Addr} {sl : Array (Option Value)} {oc kV dc pm cd ct : Value} (X : K.In h) (G : h.Ns mainGlobals mg)
    (a : PySem.W.nsIn K mainGlobals "_law_of" = some (some (.ref f))) (l : K.lookup f = some ⟨oc, od, .func (PySem.W.fnOf "_law_of" "_law_of" (defArgs s_law_of) (defBody s_law_of) (defScope s_law_of) .none kV dc pm an cd ct), sl⟩) (c : PySem.W.codeIn K cd "_law_of" = true) (k : PySem.W.keepIn K (.ref f) = true) : At K mg "_law_of" s_law_of ["_law_tin", "_law_goods_so"] :=
  at_mk X G (fun _ _ _ _ _ _ us hl => match us, hl with | [_, _], _ => rfl) a l c k
theorem at_law_pick {K : PySem.W.Frag} {h : Heap} {mg : Str → Option Value} {f : Addr} {od an : Option Addr} {sl : Array (Option Value)} {oc kV dc pm cd ct : Value} (X : K.In h) (G : h.Ns mainGlobals mg)
    (a : PySem.W.nsIn K mainGlobals "_law_pick" = some (some (.ref f))) (l : K.lookup f = some ⟨oc, od, .func (PySem.W.fnOf "_law_pick" "_law_pick" (defArgs s_law_pick) (defBody s_law_pick) (defScope s_law_pick) .none kV dc pm an cd ct), sl⟩) (c : PySem.W.codeIn K cd "_law_pick" = true) (k : PySem.W.keepIn K (.ref f) = true) : At K mg "_law_pick" s_law_pick ["_law_tin", "_law_goods_so", "_law_count_so"] :=
  at_mk X G (fun _ _ _ _ _ _ us hl => match us, hl with | [_, _, _], _ => rfl) a l c k
theorem at_law_lists {K : PySem.W.Frag} {h : Heap} {mg : Str → Option Value} {f : Addr} {od an : Option Addr} {sl : Array (Option Value)} {oc kV dc pm cd ct : Value} (X : K.In h) (G : h.Ns mainGlobals mg)
    (a : PySem.W.nsIn K mainGlobals "_law_lists" = some (some (.ref f))) (l : K.lookup f = some ⟨oc, od, .func (PySem.W.fnOf "_law_lists" "_law_lists" (defArgs s_law_lists) (defBody s_law_lists) (defScope s_law_lists) .none kV dc pm an cd ct), sl⟩) (c : PySem.W.codeIn K cd "_law_lists" = true) (k : PySem.W.keepIn K (.ref f) = true) : At K mg "_law_lists" s_law_lists ["_law_matter"] :=
  at_mk X G (fun _ _ _ _ _ _ us hl => match us, hl with | [_], _ => rfl) a l c k
theorem at_law_same {K : PySem.W.Frag} {h : Heap} {mg : Str → Option Value} {f : Addr} {od an : Option Addr} {sl : Array (Option Value)} {oc kV dc pm cd ct : Value} (X : K.In h) (G : h.Ns mainGlobals mg)
    (a : PySem.W.nsIn K mainGlobals "_law_same" = some (some (.ref f))) (l : K.lookup f = some ⟨oc, od, .func (PySem.W.fnOf "_law_same" "_law_same" (defArgs s_law_same) (defBody s_law_same) (defScope s_law_same) .none kV dc pm an cd ct), sl⟩) (c : PySem.W.codeIn K cd "_law_same" = true) (k : PySem.W.keepIn K (.ref f) = true) : At K mg "_law_same" s_law_same ["_law_got", "_law_due"] :=
  at_mk X G (fun _ _ _ _ _ _ us hl => match us, hl with | [_, _], _ => rfl) a l c k
theorem at_law_subsets {K : PySem.W.Frag} {h : Heap} {mg : Str → Option Value} {f : Addr} {od an : Option Addr} {sl : Array (Option Value)} {oc kV dc pm cd ct : Value} (X : K.In h) (G : h.Ns mainGlobals mg)
    (a : PySem.W.nsIn K mainGlobals "_law_subsets" = some (some (.ref f))) (l : K.lookup f = some ⟨oc, od, .func (PySem.W.fnOf "_law_subsets" "_law_subsets" (defArgs s_law_subsets) (defBody s_law_subsets) (defScope s_law_subsets) .none kV dc pm an cd ct), sl⟩) (c : PySem.W.codeIn K cd "_law_subsets" = true) (k : PySem.W.keepIn K (.ref f) = true) : At K mg "_law_subsets" s_law_subsets ["_law_things_so"] :=
  at_mk X G (fun _ _ _ _ _ _ us hl => match us, hl with | [_], _ => rfl) a l c k
theorem at_law_is_number {K : PySem.W.Frag} {h : Heap} {mg : Str → Option Value} {f : Addr} {od an : Option Addr} {sl : Array (Option Value)} {oc kV dc pm cd ct : Value} (X : K.In h) (G : h.Ns mainGlobals mg)
    (a : PySem.W.nsIn K mainGlobals "_law_is_number" = some (some (.ref f))) (l : K.lookup f = some ⟨oc, od, .func (PySem.W.fnOf "_law_is_number" "_law_is_number" (defArgs s_law_is_number) (defBody s_law_is_number) (defScope s_law_is_number) .none kV dc pm an cd ct), sl⟩) (c : PySem.W.codeIn K cd "_law_is_number" = true) (k : PySem.W.keepIn K (.ref f) = true) : At K mg "_law_is_number" s_law_is_number ["_law_own"] :=
  at_mk X G (fun _ _ _ _ _ _ us hl => match us, hl with | [_], _ => rfl) a l c k
theorem at_law_settled {K : PySem.W.Frag} {h : Heap} {mg : Str → Option Value} {f : Addr} {od an : Option Addr} {sl : Array (Option Value)} {oc kV dc pm cd ct : Value} (X : K.In h) (G : h.Ns mainGlobals mg)
    (a : PySem.W.nsIn K mainGlobals "_law_settled" = some (some (.ref f))) (l : K.lookup f = some ⟨oc, od, .func (PySem.W.fnOf "_law_settled" "_law_settled" (defArgs s_law_settled) (defBody s_law_settled) (defScope s_law_settled) .none kV dc pm an cd ct), sl⟩) (c : PySem.W.codeIn K cd "_law_settled" = true) (k : PySem.W.keepIn K (.ref f) = true) : At K mg "_law_settled" s_law_settled ["_law_rows_so"] :=
  at_mk X G (fun _ _ _ _ _ _ us hl => match us, hl with | [_], _ => rfl) a l c k
theorem at_law_next {K : PySem.W.Frag} {h : Heap} {mg : Str → Option Value} {f : Addr} {od an : Option Addr} {sl : Array (Option Value)} {oc kV dc pm cd ct : Value} (X : K.In h) (G : h.Ns mainGlobals mg)
    (a : PySem.W.nsIn K mainGlobals "_law_next" = some (some (.ref f))) (l : K.lookup f = some ⟨oc, od, .func (PySem.W.fnOf "_law_next" "_law_next" (defArgs s_law_next) (defBody s_law_next) (defScope s_law_next) .none kV dc pm an cd ct), sl⟩) (c : PySem.W.codeIn K cd "_law_next" = true) (k : PySem.W.keepIn K (.ref f) = true) : At K mg "_law_next" s_law_next ["_law_version_so"] :=
  at_mk X G (fun _ _ _ _ _ _ us hl => match us, hl with | [_], _ => rfl) a l c k
theorem at_law_every {K : PySem.W.Frag} {h : Heap} {mg : Str → Option Value} {f : Addr} {od an : Option Addr} {sl : Array (Option Value)} {oc kV dc pm cd ct : Value} (X : K.In h) (G : h.Ns mainGlobals mg)
    (a : PySem.W.nsIn K mainGlobals "_law_every" = some (some (.ref f))) (l : K.lookup f = some ⟨oc, od, .func (PySem.W.fnOf "_law_every" "_law_every" (defArgs s_law_every) (defBody s_law_every) (defScope s_law_every) .none kV dc pm an cd ct), sl⟩) (c : PySem.W.codeIn K cd "_law_every" = true) (k : PySem.W.keepIn K (.ref f) = true) : At K mg "_law_every" s_law_every [] :=
  at_mk X G (fun _ _ _ _ _ _ us hl => match us, hl with | [], _ => rfl) a l c k
theorem at_law_held {K : PySem.W.Frag} {h : Heap} {mg : Str → Option Value} {f : Addr} {od an : Option Addr} {sl : Array (Option Value)} {oc kV dc pm cd ct : Value} (X : K.In h) (G : h.Ns mainGlobals mg)
    (a : PySem.W.nsIn K mainGlobals "_law_held" = some (some (.ref f))) (l : K.lookup f = some ⟨oc, od, .func (PySem.W.fnOf "_law_held" "_law_held" (defArgs s_law_held) (defBody s_law_held) (defScope s_law_held) .none kV dc pm an cd ct), sl⟩) (c : PySem.W.codeIn K cd "_law_held" = true) (k : PySem.W.keepIn K (.ref f) = true) : At K mg "_law_held" s_law_held ["_law_span_so", "_law_version_so"] :=
  at_mk X G (fun _ _ _ _ _ _ us hl => match us, hl with | [_, _], _ => rfl) a l c k
theorem at_law_span_of {K : PySem.W.Frag} {h : Heap} {mg : Str → Option Value} {f : Addr} {od an : Option Addr} {sl : Array (Option Value)} {oc kV dc pm cd ct : Value} (X : K.In h) (G : h.Ns mainGlobals mg)
    (a : PySem.W.nsIn K mainGlobals "_law_span_of" = some (some (.ref f))) (l : K.lookup f = some ⟨oc, od, .func (PySem.W.fnOf "_law_span_of" "_law_span_of" (defArgs s_law_span_of) (defBody s_law_span_of) (defScope s_law_span_of) .none kV dc pm an cd ct), sl⟩) (c : PySem.W.codeIn K cd "_law_span_of" = true) (k : PySem.W.keepIn K (.ref f) = true) : At K mg "_law_span_of" s_law_span_of ["_law_flags_so", "_law_points_so"] :=
  at_mk X G (fun _ _ _ _ _ _ us hl => match us, hl with | [_, _], _ => rfl) a l c k
theorem at_law_points {K : PySem.W.Frag} {h : Heap} {mg : Str → Option Value} {f : Addr} {od an : Option Addr} {sl : Array (Option Value)} {oc kV dc pm cd ct : Value} (X : K.In h) (G : h.Ns mainGlobals mg)
    (a : PySem.W.nsIn K mainGlobals "_law_points" = some (some (.ref f))) (l : K.lookup f = some ⟨oc, od, .func (PySem.W.fnOf "_law_points" "_law_points" (defArgs s_law_points) (defBody s_law_points) (defScope s_law_points) .none kV dc pm an cd ct), sl⟩) (c : PySem.W.codeIn K cd "_law_points" = true) (k : PySem.W.keepIn K (.ref f) = true) : At K mg "_law_points" s_law_points ["_law_spans_so"] :=
  at_mk X G (fun _ _ _ _ _ _ us hl => match us, hl with | [_], _ => rfl) a l c k
theorem at_law_is_version {K : PySem.W.Frag} {h : Heap} {mg : Str → Option Value} {f : Addr} {od an : Option Addr} {sl : Array (Option Value)} {oc kV dc pm cd ct : Value} (X : K.In h) (G : h.Ns mainGlobals mg)
    (a : PySem.W.nsIn K mainGlobals "_law_is_version" = some (some (.ref f))) (l : K.lookup f = some ⟨oc, od, .func (PySem.W.fnOf "_law_is_version" "_law_is_version" (defArgs s_law_is_version) (defBody s_law_is_version) (defScope s_law_is_version) .none kV dc pm an cd ct), sl⟩) (c : PySem.W.codeIn K cd "_law_is_version" = true) (k : PySem.W.keepIn K (.ref f) = true) : At K mg "_law_is_version" s_law_is_version ["_law_own"] :=
  at_mk X G (fun _ _ _ _ _ _ us hl => match us, hl with | [_], _ => rfl) a l c k
theorem at_law_is_span {K : PySem.W.Frag} {h : Heap} {mg : Str → Option Value} {f : Addr} {od an : Option Addr} {sl : Array (Option Value)} {oc kV dc pm cd ct : Value} (X : K.In h) (G : h.Ns mainGlobals mg)
    (a : PySem.W.nsIn K mainGlobals "_law_is_span" = some (some (.ref f))) (l : K.lookup f = some ⟨oc, od, .func (PySem.W.fnOf "_law_is_span" "_law_is_span" (defArgs s_law_is_span) (defBody s_law_is_span) (defScope s_law_is_span) .none kV dc pm an cd ct), sl⟩) (c : PySem.W.codeIn K cd "_law_is_span" = true) (k : PySem.W.keepIn K (.ref f) = true) : At K mg "_law_is_span" s_law_is_span ["_law_own"] :=
  at_mk X G (fun _ _ _ _ _ _ us hl => match us, hl with | [_], _ => rfl) a l c k
theorem at_law_line {K : PySem.W.Frag} {h : Heap} {mg : Str → Option Value} {f : Addr} {od an : Option Addr} {sl : Array (Option Value)} {oc kV dc pm cd ct : Value} (X : K.In h) (G : h.Ns mainGlobals mg)
    (a : PySem.W.nsIn K mainGlobals "_law_line" = some (some (.ref f))) (l : K.lookup f = some ⟨oc, od, .func (PySem.W.fnOf "_law_line" "_law_line" (defArgs s_law_line) (defBody s_law_line) (defScope s_law_line) .none kV dc pm an cd ct), sl⟩) (c : PySem.W.codeIn K cd "_law_line" = true) (k : PySem.W.keepIn K (.ref f) = true) : At K mg "_law_line" s_law_line [] :=
  at_mk X G (fun _ _ _ _ _ _ us hl => match us, hl with | [], _ => rfl) a l c k
theorem at_law_drawn_span {K : PySem.W.Frag} {h : Heap} {mg : Str → Option Value} {f : Addr} {od an : Option Addr} {sl : Array (Option Value)} {oc kV dc pm cd ct : Value} (X : K.In h) (G : h.Ns mainGlobals mg)
    (a : PySem.W.nsIn K mainGlobals "_law_drawn_span" = some (some (.ref f))) (l : K.lookup f = some ⟨oc, od, .func (PySem.W.fnOf "_law_drawn_span" "_law_drawn_span" (defArgs s_law_drawn_span) (defBody s_law_drawn_span) (defScope s_law_drawn_span) .none kV dc pm an cd ct), sl⟩) (c : PySem.W.codeIn K cd "_law_drawn_span" = true) (k : PySem.W.keepIn K (.ref f) = true) : At K mg "_law_drawn_span" s_law_drawn_span ["_law_tin"] :=
  at_mk X G (fun _ _ _ _ _ _ us hl => match us, hl with | [_], _ => rfl) a l c k
theorem at_law_by_flags {K : PySem.W.Frag} {h : Heap} {mg : Str → Option Value} {f : Addr} {od an : Option Addr} {sl : Array (Option Value)} {oc kV dc pm cd ct : Value} (X : K.In h) (G : h.Ns mainGlobals mg)
    (a : PySem.W.nsIn K mainGlobals "_law_by_flags" = some (some (.ref f))) (l : K.lookup f = some ⟨oc, od, .func (PySem.W.fnOf "_law_by_flags" "_law_by_flags" (defArgs s_law_by_flags) (defBody s_law_by_flags) (defScope s_law_by_flags) .none kV dc pm an cd ct), sl⟩) (c : PySem.W.codeIn K cd "_law_by_flags" = true) (k : PySem.W.keepIn K (.ref f) = true) : At K mg "_law_by_flags" s_law_by_flags ["_law_spans_so", "_law_wanted_so"] :=
  at_mk X G (fun _ _ _ _ _ _ us hl => match us, hl with | [_, _], _ => rfl) a l c k
theorem at_law_numbers {K : PySem.W.Frag} {h : Heap} {mg : Str → Option Value} {f : Addr} {od an : Option Addr} {sl : Array (Option Value)} {oc kV dc pm cd ct : Value} (X : K.In h) (G : h.Ns mainGlobals mg)
    (a : PySem.W.nsIn K mainGlobals "_law_numbers" = some (some (.ref f))) (l : K.lookup f = some ⟨oc, od, .func (PySem.W.fnOf "_law_numbers" "_law_numbers" (defArgs s_law_numbers) (defBody s_law_numbers) (defScope s_law_numbers) .none kV dc pm an cd ct), sl⟩) (c : PySem.W.codeIn K cd "_law_numbers" = true) (k : PySem.W.keepIn K (.ref f) = true) : At K mg "_law_numbers" s_law_numbers ["_law_spans_so", "_law_version_so"] :=
  at_mk X G (fun _ _ _ _ _ _ us hl => match us, hl with | [_, _], _ => rfl) a l c k
theorem at_law_grains {K : PySem.W.Frag} {h : Heap} {mg : Str → Option Value} {f : Addr} {od an : Option Addr} {sl : Array (Option Value)} {oc kV dc pm cd ct : Value} (X : K.In h) (G : h.Ns mainGlobals mg)
    (a : PySem.W.nsIn K mainGlobals "_law_grains" = some (some (.ref f))) (l : K.lookup f = some ⟨oc, od, .func (PySem.W.fnOf "_law_grains" "_law_grains" (defArgs s_law_grains) (defBody s_law_grains) (defScope s_law_grains) .none kV dc pm an cd ct), sl⟩) (c : PySem.W.codeIn K cd "_law_grains" = true) (k : PySem.W.keepIn K (.ref f) = true) : At K mg "_law_grains" s_law_grains ["_law_spans_so"] :=
  at_mk X G (fun _ _ _ _ _ _ us hl => match us, hl with | [_], _ => rfl) a l c k
theorem at_law_bent_span {K : PySem.W.Frag} {h : Heap} {mg : Str → Option Value} {f : Addr} {od an : Option Addr} {sl : Array (Option Value)} {oc kV dc pm cd ct : Value} (X : K.In h) (G : h.Ns mainGlobals mg)
    (a : PySem.W.nsIn K mainGlobals "_law_bent_span" = some (some (.ref f))) (l : K.lookup f = some ⟨oc, od, .func (PySem.W.fnOf "_law_bent_span" "_law_bent_span" (defArgs s_law_bent_span) (defBody s_law_bent_span) (defScope s_law_bent_span) .none kV dc pm an cd ct), sl⟩) (c : PySem.W.codeIn K cd "_law_bent_span" = true) (k : PySem.W.keepIn K (.ref f) = true) : At K mg "_law_bent_span" s_law_bent_span ["_law_tin", "_law_span_so"] :=
  at_mk X G (fun _ _ _ _ _ _ us hl => match us, hl with | [_, _], _ => rfl) a l c k
theorem at_law_drawn_pairs {K : PySem.W.Frag} {h : Heap} {mg : Str → Option Value} {f : Addr} {od an : Option Addr} {sl : Array (Option Value)} {oc kV dc pm cd ct : Value} (X : K.In h) (G : h.Ns mainGlobals mg)
    (a : PySem.W.nsIn K mainGlobals "_law_drawn_pairs" = some (some (.ref f))) (l : K.lookup f = some ⟨oc, od, .func (PySem.W.fnOf "_law_drawn_pairs" "_law_drawn_pairs" (defArgs s_law_drawn_pairs) (defBody s_law_drawn_pairs) (defScope s_law_drawn_pairs) .none kV dc pm an cd ct), sl⟩) (c : PySem.W.codeIn K cd "_law_drawn_pairs" = true) (k : PySem.W.keepIn K (.ref f) = true) : At K mg "_law_drawn_pairs" s_law_drawn_pairs ["_law_tin"] :=
  at_mk X G (fun _ _ _ _ _ _ us hl => match us, hl with | [_], _ => rfl) a l c k
theorem at_law_by_hand_right {K : PySem.W.Frag} {h : Heap} {mg : Str → Option Value} {f : Addr} {od an : Option Addr} {sl : Array (Option Value)} {oc kV dc pm cd ct : Value} (X : K.In h) (G : h.Ns mainGlobals mg)
    (a : PySem.W.nsIn K mainGlobals "_law_by_hand_right" = some (some (.ref f))) (l : K.lookup f = some ⟨oc, od, .func (PySem.W.fnOf "_law_by_hand_right" "_law_by_hand_right" (defArgs s_law_by_hand_right) (defBody s_law_by_hand_right) (defScope s_law_by_hand_right) .none kV dc pm an cd ct), sl⟩) (c : PySem.W.codeIn K cd "_law_by_hand_right" = true) (k : PySem.W.keepIn K (.ref f) = true) : At K mg "_law_by_hand_right" s_law_by_hand_right [] :=
  at_mk X G (fun _ _ _ _ _ _ us hl => match us, hl with | [], _ => rfl) a l c k
theorem at_law_right {K : PySem.W.Frag} {h : Heap} {mg : Str → Option Value} {f : Addr} {od an : Option Addr} {sl : Array (Option Value)} {oc kV dc pm cd ct : Value} (X : K.In h) (G : h.Ns mainGlobals mg)
    (a : PySem.W.nsIn K mainGlobals "_law_right" = some (some (.ref f))) (l : K.lookup f = some ⟨oc, od, .func (PySem.W.fnOf "_law_right" "_law_right" (defArgs s_law_right) (defBody s_law_right) (defScope s_law_right) .none kV dc pm an cd ct), sl⟩) (c : PySem.W.codeIn K cd "_law_right" = true) (k : PySem.W.keepIn K (.ref f) = true) : At K mg "_law_right" s_law_right ["_law_tin"] :=
  at_mk X G (fun _ _ _ _ _ _ us hl => match us, hl with | [_], _ => rfl) a l c k
/-- all of them -/
structure Ats (K : PySem.W.Frag) (mg : Str → Option Value) : Prop where
  tupled_ : At K mg "tupled" s_tupled ["thing"]
  is_number_ : At K mg "is_number" s_is_number ["thing"]
  is_tuple_of_ : At K mg "is_tuple_of" s_is_tuple_of ["thing", "size"]
  is_version_ : At K mg "is_version" s_is_version ["thing"]
  is_span_pair_ : At K mg "is_span_pair" s_is_span_pair ["thing"]
  is_range_ : At K mg "is_range" s_is_range ["thing"]
  pair_holds_ : At K mg "pair_holds" s_pair_holds ["pair", "version"]
  span_holds_ : At K mg "span_holds" s_span_holds ["span", "version"]
  cuts_in_ : At K mg "cuts_in" s_cuts_in ["spans"]
  range_cuts_ : At K mg "range_cuts" s_range_cuts ["spans"]
  stretches_ : At K mg "stretches" s_stretches ["cuts"]
  spans_holding_ : At K mg "spans_holding" s_spans_holding ["spans", "version"]
  grains_in_ : At K mg "grains_in" s_grains_in ["spans"]
  range_grains_ : At K mg "range_grains" s_range_grains ["spans"]
  pairs_joined_ : At K mg "pairs_joined" s_pairs_joined ["pairs"]
  by_rows_ : At K mg "by_rows" s_by_rows ["spans", "rows"]
  range_of_ : At K mg "range_of" s_range_of ["pairs"]
  both_of_ : At K mg "both_of" s_both_of ["one", "other"]
  either_of_ : At K mg "either_of" s_either_of ["one", "other"]
  all_but_ : At K mg "all_but" s_all_but ["span"]
  taken_out_ : At K mg "taken_out" s_taken_out ["one", "other"]
  is_inside_ : At K mg "is_inside" s_is_inside ["one", "other"]
  are_apart_ : At K mg "are_apart" s_are_apart ["one", "other"]
  parting_version_ : At K mg "parting_version" s_parting_version ["one", "other"]
  law_box_ : At K mg "_law_box" s_law_box ["_law_script", "_law_k"]
  law_take_ : At K mg "_law_take" s_law_take ["_law_tin", "_law_below_so"]
  law_cells_ : At K mg "_law_cells" s_law_cells ["_law_script", "_law_most_so"]
  law_of_ : At K mg "_law_of" s_law_of ["_law_tin", "_law_goods_so"]
  law_pick_ : At K mg "_law_pick" s_law_pick ["_law_tin", "_law_goods_so", "_law_count_so"]
  law_lists_ : At K mg "_law_lists" s_law_lists ["_law_matter"]
  law_same_ : At K mg "_law_same" s_law_same ["_law_got", "_law_due"]
  law_subsets_ : At K mg "_law_subsets" s_law_subsets ["_law_things_so"]
  law_is_number_ : At K mg "_law_is_number" s_law_is_number ["_law_own"]
  law_settled_ : At K mg "_law_settled" s_law_settled ["_law_rows_so"]
  law_next_ : At K mg "_law_next" s_law_next ["_law_version_so"]
  law_every_ : At K mg "_law_every" s_law_every []
  law_held_ : At K mg "_law_held" s_law_held ["_law_span_so", "_law_version_so"]
  law_span_of_ : At K mg "_law_span_of" s_law_span_of ["_law_flags_so", "_law_points_so"]
  law_points_ : At K mg "_law_points" s_law_points ["_law_spans_so"]
  law_is_version_ : At K mg "_law_is_version" s_law_is_version ["_law_own"]
  law_is_span_ : At K mg "_law_is_span" s_law_is_span ["_law_own"]
  law_line_ : At K mg "_law_line" s_law_line []
  law_drawn_span_ : At K mg "_law_drawn_span" s_law_drawn_span ["_law_tin"]
  law_by_flags_ : At K mg "_law_by_flags" s_law_by_flags ["_law_spans_so", "_law_wanted_so"]
  law_numbers_ : At K mg "_law_numbers" s_law_numbers ["_law_spans_so", "_law_version_so"]
  law_grains_ : At K mg "_law_grains" s_law_grains ["_law_spans_so"]
  law_bent_span_ : At K mg "_law_bent_span" s_law_bent_span ["_law_tin", "_law_span_so"]
  law_drawn_pairs_ : At K mg "_law_drawn_pairs" s_law_drawn_pairs ["_law_tin"]
  law_by_hand_right_ : At K mg "_law_by_hand_right" s_law_by_hand_right []
  law_right_ : At K mg "_law_right" s_law_right ["_law_tin"]
theorem law_all {P : Program} {w : World} {K : PySem.W.Frag} {mg : Str → Option Value} {base : Heap} {fa : Addr} {fd : FuncData} (A : Ats K mg) (B : Blt mg) (G : Gls K mg) (F : Fun K "law" "law" s_law fa fd) : FnOk P w K mg base CX0 11 fa fd ["_law_script"] (spLaw K) := by
  have tup : ∀ k, Df P w K mg base (k + 1) "tupled" ["thing"] (spD K (preRec tupM k)) := df_tupled A.tupled_ B
  have tup4 := tup 4
  have num := df_is_number (P := P) (w := w) (base := base) A.is_number_ B
  have tof := df_is_tuple_of (P := P) (w := w) (base := base) A.is_tuple_of_ B
  have ver := df_is_version A.is_version_ B G tof num
  have pair := df_is_span_pair A.is_span_pair_ B tof ver
  have rng := df_is_range A.is_range_ B pair
  have holds := df_pair_holds (P := P) (w := w) (base := base) A.pair_holds_ B
  have sholds := df_span_holds A.span_holds_ B holds
  have cutsin := df_cuts_in (P := P) (w := w) (base := base) A.cuts_in_ B G
  have rcuts := df_range_cuts A.range_cuts_ cutsin tup4
  have str := df_stretches (P := P) (w := w) (base := base) A.stretches_ B
  have hold := df_spans_holding A.spans_holding_ B sholds
  have grs := df_grains_in A.grains_in_ B cutsin str hold
  have rgrs := df_range_grains A.range_grains_ grs tup4
  have join := df_pairs_joined (P := P) (w := w) (base := base) A.pairs_joined_ B
  have rows := df_by_rows A.by_rows_ B join tup4 rgrs
  have rof := df_range_of A.range_of_ B tup4 rows
  have both := df_both_of A.both_of_ rows
  have either := df_either_of A.either_of_ rows
  have but := df_all_but A.all_but_ rows
  have out := df_taken_out A.taken_out_ rows
  have inside := df_is_inside A.is_inside_ out
  have apart := df_are_apart A.are_apart_ both
  have part := df_parting_version A.parting_version_ rows
  have box := df_box_def (P := P) (w := w) (base := base) A.law_box_ B
  have take := df_take (P := P) (w := w) (base := base) A.law_take_ B
  have cells := df_cells (P := P) (w := w) (base := base) A.law_cells_ B
  have lof := df_of A.law_of_ B take
  have pick := df_pick A.law_pick_ B take
  have lists := df_law_lists (P := P) (w := w) (base := base) A.law_lists_ B 4
  have same := df_law_same (P := P) (w := w) (base := base) A.law_same_ B 8
  have subs := df_subsets (P := P) (w := w) (base := base) A.law_subsets_ B
  have lnum := df_law_is_number (P := P) (w := w) (base := base) A.law_is_number_ B
  have settled := df_settled (P := P) (w := w) (base := base) A.law_settled_ B
  have nxt := df_law_next (P := P) (w := w) (base := base) A.law_next_
  have every := df_every (P := P) (w := w) (base := base) A.law_every_
  have held := df_held (P := P) (w := w) (base := base) A.law_held_ B
  have sof := df_span_of (P := P) (w := w) (base := base) A.law_span_of_ B
  have points := df_points A.law_points_ B settled
  have lver := df_law_is_version A.law_is_version_ B lnum
  have lspan := df_law_is_span A.law_is_span_ B lver
  have lin := df_line (P := P) (w := w) (base := base) A.law_line_
  have drawn := df_drawn_span A.law_drawn_span_ B take pick lin sof every
  have numbers := df_numbers A.law_numbers_ B held
  have flags := df_by_flags A.law_by_flags_ B points numbers sof
  have lgr := df_law_grains A.law_grains_ B points numbers
  have bent := df_bent_span A.law_bent_span_ B take nxt
  have dpairs := df_drawn_pairs A.law_drawn_pairs_ B take lof lin
  have hand := df_hand A.law_by_hand_right_ B both either but out inside apart part rcuts rgrs rof rows rng.1 every same
  have right := df_right A.law_right_ B both either but out inside apart part rcuts rgrs rof rows rng.2 same lists flags points held sof lgr subs lspan take pick drawn bent dpairs
  exact law_ok F B hand cells box right
end NF

set_option Elab.async false
set_option linter.all false
set_option maxRecDepth 100000
namespace NF
open PySem PySem.Spec PyProof.Rows L2
theorem fin_mk {P : Program} {w : World} {K : PySem.W.Frag} {h : Heap} {mg : Str → Option Value} {fa f : Addr} {od an : Option Addr} {sl : Array (Option Value)} {oc kV dc pm cd ct : Value} (X : K.In h) (G : h.Ns mainGlobals mg) (hfa : mg "law" = some (.ref fa)) (A : Ats K mg) (B : Blt mg) (GL : Gls K mg)
    (a : PySem.W.nsIn K mainGlobals "law" = some (some (.ref f))) (l : K.lookup f = some ⟨oc, od, .func (PySem.W.fnOf "law" "law" (defArgs s_law) (defBody s_law) (defScope s_law) .none kV dc pm an cd ct), sl⟩) (c : PySem.W.codeIn K cd "law" = true) (k : PySem.W.keepIn K (.ref f) = true) :
    ∃ fd : FuncData, (∀ (s : Shared) (v : Value), BindsTo s fd ⟨[v], []⟩ [("_law_script", v)]) ∧ ∀ base : Heap, K.In base → base.Ns mainGlobals mg → FnOk P w K mg base CX0 11 fa fd ["_law_script"] (spLaw K) := by
  have e := hfa.symm.trans (PySem.W.mg_of X G a)
  cases e
  exact ⟨PySem.W.fnOf "law" "law" (defArgs s_law) (defBody s_law) (defScope s_law) .none kV dc pm an cd ct, fun s v => .of_eq rfl, fun base _ _ => law_all A B GL (fun_mk (st := s_law) l c k)⟩
end NF
open PySem PySem.W PyProof.Rows in
set_option maxRecDepth 100000 in
set_option maxHeartbeats 0 in
theorem PySem.Challenge.cw_newestfit_k03_whole_ranges_of_one_anothe_holds : PySem.Challenge.rw_newestfit_k03_whole_ranges_of_one_anothe.Holds := by
  w_on; o_law; k_head; (case hw => w_witness2)
  k_fill
  refine L2.walk_of (l := PySem.Challenge.rw_newestfit_k03_whole_ranges_of_one_anothe) (n := 63) (k := 11) (x := "_law_script") (CX := fun _ => L2.CX0) (sp := fun w => NF.spLaw _) rfl (by decide) rfl ⟨rfl, by decide, by decide⟩ (fun w h Y => PySem.W.kIn_of Y) ?F (fun _ _ a ns hl _ hS => ⟨a, ns, rfl, hS, hl, fun _ => rfl⟩) (fun _ _ _ _ _ h => h)
  case F =>
    intro w mg fa h KX G hmg
    refine' NF.fin_mk KX G hmg ?A ?B ?GL ?aL ?lL ?cL ?kL
    (case A =>
      refine' NF.Ats.mk ?A_tupled ?A_is_number ?A_is_tuple_of ?A_is_version ?A_is_span_pair ?A_is_range ?A_pair_holds ?A_span_holds ?A_cuts_in ?A_range_cuts ?A_stretches ?A_spans_holding ?A_grains_in ?A_range_grains ?A_pairs_joined ?A_by_rows ?A_range_of ?A_both_of ?A_either_of ?A_all_but ?A_taken_out ?A_is_inside ?A_are_apart ?A_parting_version ?A_law_box ?A_law_take ?A_law_cells ?A_law_of ?A_law_pick ?A_law_lists ?A_law_same ?A_law_subsets ?A_law_is_number ?A_law_settled ?A_law_next ?A_law_every ?A_law_held ?A_law_span_of ?A_law_points ?A_law_is_version ?A_law_is_span ?A_law_line ?A_law_drawn_span ?A_law_by_flags ?A_law_numbers ?A_law_grains ?A_law_bent_span ?A_law_drawn_pairs ?A_law_by_hand_right ?A_law_right
      (case A_tupled =>
        refine' NF.at_tupled KX G ?a_tupled ?l_tupled ?c_tupled ?k_tupled
        (case a_tupled => k_is)
        (case l_tupled => k_is)
        (case c_tupled => k_is)
        (case k_tupled => k_is))
      (case A_is_number =>
        refine' NF.at_is_number KX G ?a_is_number ?l_is_number ?c_is_number ?k_is_number
        (case a_is_number => k_is)
        (case l_is_number => k_is)
        (case c_is_number => k_is)
        (case k_is_number => k_is))
      (case A_is_tuple_of =>
        refine' NF.at_is_tuple_of KX G ?a_is_tuple_of ?l_is_tuple_of ?c_is_tuple_of ?k_is_tuple_of
        (case a_is_tuple_of => k_is)
        (case l_is_tuple_of => k_is)
        (case c_is_tuple_of => k_is)
        (case k_is_tuple_of => k_is))
      (case A_is_version =>
        refine' NF.at_is_version KX G ?a_is_version ?l_is_version ?c_is_version ?k_is_version
        (case a_is_version => k_is)
        (case l_is_version => k_is)
        (case c_is_version => k_is)
        (case k_is_version => k_is))
      (case A_is_span_pair =>
        refine' NF.at_is_span_pair KX G ?a_is_span_pair ?l_is_span_pair ?c_is_span_pair ?k_is_span_pair
        (case a_is_span_pair => k_is)
        (case l_is_span_pair => k_is)
        (case c_is_span_pair => k_is)
        (case k_is_span_pair => k_is))
      (case A_is_range =>
        refine' NF.at_is_range KX G ?a_is_range ?l_is_range ?c_is_range ?k_is_range
        (case a_is_range => k_is)
        (case l_is_range => k_is)
        (case c_is_range => k_is)
        (case k_is_range => k_is))
      (case A_pair_holds =>
        refine' NF.at_pair_holds KX G ?a_pair_holds ?l_pair_holds ?c_pair_holds ?k_pair_holds
        (case a_pair_holds => k_is)
        (case l_pair_holds => k_is)
        (case c_pair_holds => k_is)
        (case k_pair_holds => k_is))
      (case A_span_holds =>
        refine' NF.at_span_holds KX G ?a_span_holds ?l_span_holds ?c_span_holds ?k_span_holds
        (case a_span_holds => k_is)
        (case l_span_holds => k_is)
        (case c_span_holds => k_is)
        (case k_span_holds => k_is))
      (case A_cuts_in =>
        refine' NF.at_cuts_in KX G ?a_cuts_in ?l_cuts_in ?c_cuts_in ?k_cuts_in
        (case a_cuts_in => k_is)
        (case l_cuts_in => k_is)
        (case c_cuts_in => k_is)
        (case k_cuts_in => k_is))
      (case A_range_cuts =>
        refine' NF.at_range_cuts KX G ?a_range_cuts ?l_range_cuts ?c_range_cuts ?k_range_cuts
        (case a_range_cuts => k_is)
        (case l_range_cuts => k_is)
        (case c_range_cuts => k_is)
        (case k_range_cuts => k_is))
      (case A_stretches =>
        refine' NF.at_stretches KX G ?a_stretches ?l_stretches ?c_stretches ?k_stretches
        (case a_stretches => k_is)
        (case l_stretches => k_is)
        (case c_stretches => k_is)
        (case k_stretches => k_is))
      (case A_spans_holding =>
        refine' NF.at_spans_holding KX G ?a_spans_holding ?l_spans_holding ?c_spans_holding ?k_spans_holding
        (case a_spans_holding => k_is)
        (case l_spans_holding => k_is)
        (case c_spans_holding => k_is)
        (case k_spans_holding => k_is))
      (case A_grains_in =>
        refine' NF.at_grains_in KX G ?a_grains_in ?l_grains_in ?c_grains_in ?k_grains_in
        (case a_grains_in => k_is)
        (case l_grains_in => k_is)
        (case c_grains_in => k_is)
        (case k_grains_in => k_is))
      (case A_range_grains =>
        refine' NF.at_range_grains KX G ?a_range_grains ?l_range_grains ?c_range_grains ?k_range_grains
        (case a_range_grains => k_is)
        (case l_range_grains => k_is)
        (case c_range_grains => k_is)
        (case k_range_grains => k_is))
      (case A_pairs_joined =>
        refine' NF.at_pairs_joined KX G ?a_pairs_joined ?l_pairs_joined ?c_pairs_joined ?k_pairs_joined
        (case a_pairs_joined => k_is)
        (case l_pairs_joined => k_is)
        (case c_pairs_joined => k_is)
        (case k_pairs_joined => k_is))
      (case A_by_rows =>
        refine' NF.at_by_rows KX G ?a_by_rows ?l_by_rows ?c_by_rows ?k_by_rows
        (case a_by_rows => k_is)
        (case l_by_rows => k_is)
        (case c_by_rows => k_is)
        (case k_by_rows => k_is))
      (case A_range_of =>
        refine' NF.at_range_of KX G ?a_range_of ?l_range_of ?c_range_of ?k_range_of
        (case a_range_of => k_is)
        (case l_range_of => k_is)
        (case c_range_of => k_is)
        (case k_range_of => k_is))
      (case A_both_of =>
        refine' NF.at_both_of KX G ?a_both_of ?l_both_of ?c_both_of ?k_both_of
        (case a_both_of => k_is)
        (case l_both_of => k_is)
        (case c_both_of => k_is)
        (case k_both_of => k_is))
      (case A_either_of =>
        refine' NF.at_either_of KX G ?a_either_of ?l_either_of ?c_either_of ?k_either_of
        (case a_either_of => k_is)
        (case l_either_of => k_is)
        (case c_either_of => k_is)
        (case k_either_of => k_is))
      (case A_all_but =>
        refine' NF.at_all_but KX G ?a_all_but ?l_all_but ?c_all_but ?k_all_but
        (case a_all_but => k_is)
        (case l_all_but => k_is)
        (case c_all_but => k_is)
        (case k_all_but => k_is))
      (case A_taken_out =>
        refine' NF.at_taken_out KX G ?a_taken_out ?l_taken_out ?c_taken_out ?k_taken_out
        (case a_taken_out => k_is)
        (case l_taken_out => k_is)
        (case c_taken_out => k_is)
        (case k_taken_out => k_is))
      (case A_is_inside =>
        refine' NF.at_is_inside KX G ?a_is_inside ?l_is_inside ?c_is_inside ?k_is_inside
        (case a_is_inside => k_is)
        (case l_is_inside => k_is)
        (case c_is_inside => k_is)
        (case k_is_inside => k_is))
      (case A_are_apart =>
        refine' NF.at_are_apart KX G ?a_are_apart ?l_are_apart ?c_are_apart ?k_are_apart
        (case a_are_apart => k_is)
        (case l_are_apart => k_is)
        (case c_are_apart => k_is)
        (case k_are_apart => k_is))
      (case A_parting_version =>
        refine' NF.at_parting_version KX G ?a_parting_version ?l_parting_version ?c_parting_version ?k_parting_version
        (case a_parting_version => k_is)
        (case l_parting_version => k_is)
        (case c_parting_version => k_is)
        (case k_parting_version => k_is))
      (case A_law_box =>
        refine' NF.at_law_box KX G ?a_law_box ?l_law_box ?c_law_box ?k_law_box
        (case a_law_box => k_is)
        (case l_law_box => k_is)
        (case c_law_box => k_is)
        (case k_law_box => k_is))
      (case A_law_take =>
        refine' NF.at_law_take KX G ?a_law_take ?l_law_take ?c_law_take ?k_law_take
        (case a_law_take => k_is)
        (case l_law_take => k_is)
        (case c_law_take => k_is)
        (case k_law_take => k_is))
      (case A_law_cells =>
        refine' NF.at_law_cells KX G ?a_law_cells ?l_law_cells ?c_law_cells ?k_law_cells
        (case a_law_cells => k_is)
        (case l_law_cells => k_is)
        (case c_law_cells => k_is)
        (case k_law_cells => k_is))
      (case A_law_of =>
        refine' NF.at_law_of KX G ?a_law_of ?l_law_of ?c_law_of ?k_law_of
        (case a_law_of => k_is)
        (case l_law_of => k_is)
        (case c_law_of => k_is)
        (case k_law_of => k_is))
      (case A_law_pick =>
        refine' NF.at_law_pick KX G ?a_law_pick ?l_law_pick ?c_law_pick ?k_law_pick
        (case a_law_pick => k_is)
        (case l_law_pick => k_is)
        (case c_law_pick => k_is)
        (case k_law_pick => k_is))
      (case A_law_lists =>
        refine' NF.at_law_lists KX G ?a_law_lists ?l_law_lists ?c_law_lists ?k_law_lists
        (case a_law_lists => k_is)
        (case l_law_lists => k_is)
        (case c_law_lists => k_is)
        (case k_law_lists => k_is))
      (case A_law_same =>
        refine' NF.at_law_same KX G ?a_law_same ?l_law_same ?c_law_same ?k_law_same
        (case a_law_same => k_is)
        (case l_law_same => k_is)
        (case c_law_same => k_is)
        (case k_law_same => k_is))
      (case A_law_subsets =>
        refine' NF.at_law_subsets KX G ?a_law_subsets ?l_law_subsets ?c_law_subsets ?k_law_subsets
        (case a_law_subsets => k_is)
        (case l_law_subsets => k_is)
        (case c_law_subsets => k_is)
        (case k_law_subsets => k_is))
      (case A_law_is_number =>
        refine' NF.at_law_is_number KX G ?a_law_is_number ?l_law_is_number ?c_law_is_number ?k_law_is_number
        (case a_law_is_number => k_is)
        (case l_law_is_number => k_is)
        (case c_law_is_number => k_is)
        (case k_law_is_number => k_is))
      (case A_law_settled =>
        refine' NF.at_law_settled KX G ?a_law_settled ?l_law_settled ?c_law_settled ?k_law_settled
        (case a_law_settled => k_is)
        (case l_law_settled => k_is)
        (case c_law_settled => k_is)
        (case k_law_settled => k_is))
      (case A_law_next =>
        refine' NF.at_law_next KX G ?a_law_next ?l_law_next ?c_law_next ?k_law_next
        (case a_law_next => k_is)
        (case l_law_next => k_is)
        (case c_law_next => k_is)
        (case k_law_next => k_is))
      (case A_law_every =>
        refine' NF.at_law_every KX G ?a_law_every ?l_law_every ?c_law_every ?k_law_every
        (case a_law_every => k_is)
        (case l_law_every => k_is)
        (case c_law_every => k_is)
        (case k_law_every => k_is))
      (case A_law_held =>
        refine' NF.at_law_held KX G ?a_law_held ?l_law_held ?c_law_held ?k_law_held
        (case a_law_held => k_is)
        (case l_law_held => k_is)
        (case c_law_held => k_is)
        (case k_law_held => k_is))
      (case A_law_span_of =>
        refine' NF.at_law_span_of KX G ?a_law_span_of ?l_law_span_of ?c_law_span_of ?k_law_span_of
        (case a_law_span_of => k_is)
        (case l_law_span_of => k_is)
        (case c_law_span_of => k_is)
        (case k_law_span_of => k_is))
      (case A_law_points =>
        refine' NF.at_law_points KX G ?a_law_points ?l_law_points ?c_law_points ?k_law_points
        (case a_law_points => k_is)
        (case l_law_points => k_is)
        (case c_law_points => k_is)
        (case k_law_points => k_is))
      (case A_law_is_version =>
        refine' NF.at_law_is_version KX G ?a_law_is_version ?l_law_is_version ?c_law_is_version ?k_law_is_version
        (case a_law_is_version => k_is)
        (case l_law_is_version => k_is)
        (case c_law_is_version => k_is)
        (case k_law_is_version => k_is))
      (case A_law_is_span =>
        refine' NF.at_law_is_span KX G ?a_law_is_span ?l_law_is_span ?c_law_is_span ?k_law_is_span
        (case a_law_is_span => k_is)
        (case l_law_is_span => k_is)
        (case c_law_is_span => k_is)
        (case k_law_is_span => k_is))
      (case A_law_line =>
        refine' NF.at_law_line KX G ?a_law_line ?l_law_line ?c_law_line ?k_law_line
        (case a_law_line => k_is)
        (case l_law_line => k_is)
        (case c_law_line => k_is)
        (case k_law_line => k_is))
      (case A_law_drawn_span =>
        refine' NF.at_law_drawn_span KX G ?a_law_drawn_span ?l_law_drawn_span ?c_law_drawn_span ?k_law_drawn_span
        (case a_law_drawn_span => k_is)
        (case l_law_drawn_span => k_is)
        (case c_law_drawn_span => k_is)
        (case k_law_drawn_span => k_is))
      (case A_law_by_flags =>
        refine' NF.at_law_by_flags KX G ?a_law_by_flags ?l_law_by_flags ?c_law_by_flags ?k_law_by_flags
        (case a_law_by_flags => k_is)
        (case l_law_by_flags => k_is)
        (case c_law_by_flags => k_is)
        (case k_law_by_flags => k_is))
      (case A_law_numbers =>
        refine' NF.at_law_numbers KX G ?a_law_numbers ?l_law_numbers ?c_law_numbers ?k_law_numbers
        (case a_law_numbers => k_is)
        (case l_law_numbers => k_is)
        (case c_law_numbers => k_is)
        (case k_law_numbers => k_is))
      (case A_law_grains =>
        refine' NF.at_law_grains KX G ?a_law_grains ?l_law_grains ?c_law_grains ?k_law_grains
        (case a_law_grains => k_is)
        (case l_law_grains => k_is)
        (case c_law_grains => k_is)
        (case k_law_grains => k_is))
      (case A_law_bent_span =>
        refine' NF.at_law_bent_span KX G ?a_law_bent_span ?l_law_bent_span ?c_law_bent_span ?k_law_bent_span
        (case a_law_bent_span => k_is)
        (case l_law_bent_span => k_is)
        (case c_law_bent_span => k_is)
        (case k_law_bent_span => k_is))
      (case A_law_drawn_pairs =>
        refine' NF.at_law_drawn_pairs KX G ?a_law_drawn_pairs ?l_law_drawn_pairs ?c_law_drawn_pairs ?k_law_drawn_pairs
        (case a_law_drawn_pairs => k_is)
        (case l_law_drawn_pairs => k_is)
        (case c_law_drawn_pairs => k_is)
        (case k_law_drawn_pairs => k_is))
      (case A_law_by_hand_right =>
        refine' NF.at_law_by_hand_right KX G ?a_law_by_hand_right ?l_law_by_hand_right ?c_law_by_hand_right ?k_law_by_hand_right
        (case a_law_by_hand_right => k_is)
        (case l_law_by_hand_right => k_is)
        (case c_law_by_hand_right => k_is)
        (case k_law_by_hand_right => k_is))
      (case A_law_right =>
        refine' NF.at_law_right KX G ?a_law_right ?l_law_right ?c_law_right ?k_law_right
        (case a_law_right => k_is)
        (case l_law_right => k_is)
        (case c_law_right => k_is)
        (case k_law_right => k_is))
    )
    (case B =>
      refine' NF.Blt.mk ?B_isinstance ?B_list ?B_tuple ?B_int ?B_bool ?B_str ?B_len ?B_all ?B_any ?B_min ?B_zip ?B_enumerate ?B_sorted ?B_set ?B_range ?B_abs
      (case B_isinstance =>
        refine' PySem.W.mg_none_of KX G ?z_isinstance
        (case z_isinstance => k_is))
      (case B_list =>
        refine' PySem.W.mg_none_of KX G ?z_list
        (case z_list => k_is))
      (case B_tuple =>
        refine' PySem.W.mg_none_of KX G ?z_tuple
        (case z_tuple => k_is))
      (case B_int =>
        refine' PySem.W.mg_none_of KX G ?z_int
        (case z_int => k_is))
      (case B_bool =>
        refine' PySem.W.mg_none_of KX G ?z_bool
        (case z_bool => k_is))
      (case B_str =>
        refine' PySem.W.mg_none_of KX G ?z_str
        (case z_str => k_is))
      (case B_len =>
        refine' PySem.W.mg_none_of KX G ?z_len
        (case z_len => k_is))
      (case B_all =>
        refine' PySem.W.mg_none_of KX G ?z_all
        (case z_all => k_is))
      (case B_any =>
        refine' PySem.W.mg_none_of KX G ?z_any
        (case z_any => k_is))
      (case B_min =>
        refine' PySem.W.mg_none_of KX G ?z_min
        (case z_min => k_is))
      (case B_zip =>
        refine' PySem.W.mg_none_of KX G ?z_zip
        (case z_zip => k_is))
      (case B_enumerate =>
        refine' PySem.W.mg_none_of KX G ?z_enumerate
        (case z_enumerate => k_is))
      (case B_sorted =>
        refine' PySem.W.mg_none_of KX G ?z_sorted
        (case z_sorted => k_is))
      (case B_set =>
        refine' PySem.W.mg_none_of KX G ?z_set
        (case z_set => k_is))
      (case B_range =>
        refine' PySem.W.mg_none_of KX G ?z_range
        (case z_range => k_is))
      (case B_abs =>
        refine' PySem.W.mg_none_of KX G ?z_abs
        (case z_abs => k_is))
    )
    (case GL =>
      refine' NF.first_mk KX G ?a1 ?l1 ?v ?a2 ?r
      (case a1 => k_is)
      (case l1 => k_is)
      (case v => exact .cons ⟨_, rfl⟩ (.cons ⟨_, rfl⟩ (.cons ⟨_, rfl⟩ (.cons ⟨_, rfl⟩ .nil))))
      (case a2 => k_is)
      (case r => exact ⟨_, rfl⟩))
    (case aL => k_is)
    (case lL => k_is)
    (case cL => k_is)
    (case kL => k_is)

