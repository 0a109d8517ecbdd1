import PyProof.Rows.All
import Wide.All
import OpenK.AllK
import Wide.FinOn
import KE.KStateDown
import Lean
import HandS.ForMost
import HandS.IsInst
import HandS.Deep
import HandS.Zip
import HandS.Conv
import HandS.TupAny
import HandS.TupLe
import HandS.Style
import HandS.SetBool
import HandS.Defaults
import HandS.WordsExc
import HandS.Head0
import HandS.Head1
import HandS.Head2
import HandS.HeadEnd
import HandS.HeadHook1
import HandS.HeadHook2
import KE.SortData
import KE.KDictSum
import HandS.TupSets
import HandS.SetFor
import HandS.Strs
import HandS.Ends
import PySem.Challenge.RW_firstbreak_k30_spoilt_plans
set_option Elab.async false
set_option linter.all false
set_option maxRecDepth 100000
set_option maxHeartbeats 0
section
/-! A data layer: big-step judgements on PyData. -/
namespace Fb
open PySem PySem.Spec PyProof.Rows L2
abbrev D := PyData
/-! ### data in the heap; a dict stands for the script (a list of ints that is known from outside) -/
def scrD (ns : List Int) : D := .dict (ns.map fun n => (.int n, .none))
mutual
inductive Da (K : PySem.W.Frag) (H : Hp) : V → D → Prop
  | non : Da K H .non .none
  | bl (b : Bool) : Da K H (.bl b) (.bool b)
  | int (i : Int) : Da K H (.int i) (.int i)
  | str (x : Str) : Da K H (.str x) (.str x)
  | lst {a : Addr} {xs : List V} {ds : List D} : H a = some (.lst xs) → DaAll K H xs ds → Da K H (.ref a) (.list ds)
  | tup {a : Addr} {xs : List V} {ds : List D} : H a = some (.tup xs) → DaAll K H xs ds → Da K H (.ref a) (.tuple ds)
  | scr {a : Addr} {kvs : List (D × D)} (ns : List Int) : SqL K H a (ns.map V.int) → kvs = ns.map (fun n => (.int n, .none)) → Da K H (.ref a) (.dict kvs)
  | raw {a : Addr} {kvs : List (D × D)} : kvs = [(.none, .int (a : Nat))] → Da K H (.ref a) (.dict kvs)
inductive DaAll (K : PySem.W.Frag) (H : Hp) : List V → List D → Prop
  | nil : DaAll K H [] []
  | cons {v : V} {vs : List V} {d : D} {ds : List D} : Da K H v d → DaAll K H vs ds → DaAll K H (v :: vs) (d :: ds)
end
/-! ### masks -/
def mask (M : List Addr) (H : Hp) : Hp := fun a => if a ∈ M then none else H a
section
variable {M : List Addr} {H H' : Hp} {a : Addr} {o : HO} {K : PySem.W.Frag}
theorem mask_in (h : a ∈ M) : mask M H a = none := if_pos h
theorem mask_out (h : a ∉ M) : mask M H a = H a := if_neg h
theorem mask_some (h : mask M H a = some o) : a ∉ M ∧ H a = some o := by
  by_cases hm : a ∈ M
  · rw [mask_in hm] at h; cases h
  · rw [mask_out hm] at h; exact ⟨hm, h⟩
theorem mask_upd (h : a ∈ M) : mask M (upd H a o) = mask M H := by
  funext b
  by_cases hb : b ∈ M
  · rw [mask_in hb, mask_in hb]
  · rw [mask_out hb, mask_out hb]
    exact upd_ne (fun e => hb (e ▸ h))
theorem same_mask (e : Same H H') : Same (mask M H) (mask M H') := fun b u h => by
  obtain ⟨h1, h2⟩ := mask_some h
  rw [mask_out h1]
  exact e b u h2
theorem mask_le : Same (mask M H) H := fun _ _ h => (mask_some h).2
theorem mask_sub {M' : List Addr} (s : ∀ a ∈ M', a ∈ M) : Same (mask M H) (mask M' H) := fun b u h => by
  obtain ⟨h1, h2⟩ := mask_some h
  rw [mask_out (fun z => h1 (s b z))]
  exact h2
theorem same_new (h : H a = none) : Same H (upd H a o) := fun b u q => by rw [upd_ne (ne_of_none q h)]; exact q
theorem rd_mono {u : HO} (e : Same H H') (h : Rd H a u) : Rd H' a u := by
  rcases h with h | ⟨p, h⟩
  · exact .inl (e _ _ h)
  · exact .inr ⟨p, e _ _ h⟩
theorem sql_mono {xs : List V} (e : Same H H') (h : SqL K H a xs) : SqL K H' a xs := by
  rcases h with h | h
  · exact .inl (rd_mono e h)
  · exact .inr h
theorem sqt_mono {xs : List V} (e : Same H H') (h : SqT K H a xs) : SqT K H' a xs := by
  rcases h with h | h
  · exact .inl (rd_mono e h)
  · exact .inr h
end
section
variable {K : PySem.W.Frag} {H H' : Hp}
mutual
theorem dp_mono (e : Same H H') : ∀ (d : D) {v : V}, Da K H v d → Da K H' v d
  | .none, _, h => by cases h; exact .non
  | .bool b, _, h => by cases h; exact .bl b
  | .int i, _, h => by cases h; exact .int i
  | .str x, _, h => by cases h; exact .str x
  | .list ds, _, h => by
    cases h with
    | lst hs ha => exact .lst (e _ _ hs) (dpAll_mono e ds ha)
  | .tuple ds, _, h => by
    cases h with
    | tup hs ha => exact .tup (e _ _ hs) (dpAll_mono e ds ha)
  | .dict _, _, h => by
    cases h with
    | scr ns hs q => exact .scr ns (sql_mono e hs) q
    | raw q => exact .raw q
theorem dpAll_mono (e : Same H H') : ∀ (ds : List D) {vs : List V}, DaAll K H vs ds → DaAll K H' vs ds
  | [], _, h => by cases h; exact .nil
  | d :: ds, _, h => by
    cases h with
    | cons h1 h2 => exact .cons (dp_mono e d h1) (dpAll_mono e ds h2)
end
theorem dpAll_len : ∀ {vs : List V} {ds : List D}, DaAll K H vs ds → vs.length = ds.length
  | _, [], h => by cases h; rfl
  | _, d :: ds, h => by
    cases h with
    | cons _ h2 => rw [List.length_cons, List.length_cons, dpAll_len h2]
theorem dpAll_get : ∀ {vs : List V} {ds : List D} {i : Nat} {d : D}, DaAll K H vs ds → ds[i]? = some d → ∃ v, vs[i]? = some v ∧ Da K H v d
  | _, [], i, d, _, e => by simp at e
  | _, d' :: ds, 0, d, h, e => by
    cases h with
    | cons h1 _ =>
      have e' : d' = d := by simpa using e
      subst e'
      exact ⟨_, rfl, h1⟩
  | _, d' :: ds, i + 1, d, h, e => by
    cases h with
    | cons _ h2 =>
      obtain ⟨v, e1, e2⟩ := dpAll_get (i := i) h2 (by simpa using e)
      exact ⟨v, by simpa using e1, e2⟩
theorem dpAll_getV : ∀ {vs : List V} {ds : List D} {i : Nat} {v : V}, DaAll K H vs ds → vs[i]? = some v → ∃ d, ds[i]? = some d ∧ Da K H v d
  | _, [], i, v, h, e => by cases h; simp at e
  | _, d' :: ds, 0, v, h, e => by
    cases h with
    | cons h1 _ =>
      simp at e
      subst e
      exact ⟨_, rfl, h1⟩
  | _, d' :: ds, i + 1, v, h, e => by
    cases h with
    | cons _ h2 =>
      obtain ⟨d, e1, e2⟩ := dpAll_getV (i := i) h2 (by simpa using e)
      exact ⟨d, by simpa using e1, e2⟩
theorem dpAll_append : ∀ {vs us : List V} {ds es : List D}, DaAll K H vs ds → DaAll K H us es → DaAll K H (vs ++ us) (ds ++ es)
  | _, _, [], _, h, g => by cases h; exact g
  | _, _, d :: ds, _, h, g => by
    cases h with
    | cons h1 h2 => exact .cons h1 (dpAll_append h2 g)
theorem dpAll_set : ∀ {vs : List V} {ds : List D} {v : V} {d : D} (i : Nat), DaAll K H vs ds → Da K H v d → DaAll K H (vs.set i v) (ds.set i d)
  | _, [], _, _, _, h, _ => by cases h; exact .nil
  | _, d' :: ds, _, _, 0, h, g => by
    cases h with
    | cons _ h2 => exact .cons g h2
  | _, d' :: ds, _, _, i + 1, h, g => by
    cases h with
    | cons h1 h2 => exact .cons h1 (dpAll_set i h2 g)
theorem dpAll_take : ∀ {vs : List V} {ds : List D} (n : Nat), DaAll K H vs ds → DaAll K H (vs.take n) (ds.take n)
  | _, _, 0, _ => by rw [List.take_zero, List.take_zero]; exact .nil
  | _, [], n + 1, h => by cases h; exact .nil
  | _, d :: ds, n + 1, h => by
    cases h with
    | cons h1 h2 => exact .cons h1 (dpAll_take n h2)
theorem dpAll_drop : ∀ {vs : List V} {ds : List D} (n : Nat), DaAll K H vs ds → DaAll K H (vs.drop n) (ds.drop n)
  | _, _, 0, h => h
  | _, [], n + 1, h => by cases h; exact .nil
  | _, d :: ds, n + 1, h => by
    cases h with
    | cons _ h2 => exact dpAll_drop n h2
theorem dpAll_reverse {vs : List V} {ds : List D} (h : DaAll K H vs ds) : DaAll K H vs.reverse ds.reverse := by
  induction ds generalizing vs with
  | nil => cases h; exact .nil
  | cons d ds ih =>
    cases h with
    | cons h1 h2 =>
      rw [List.reverse_cons, List.reverse_cons]
      exact dpAll_append (ih h2) (.cons h1 .nil)
theorem dpAll_ints : ∀ {vs : List V} {ns : List Int}, DaAll K H vs (ns.map .int) → vs = ns.map V.int
  | _, [], h => by cases h; rfl
  | _, n :: ns, h => by
    cases h with
    | cons h1 h2 => cases h1; rw [dpAll_ints h2]; rfl
theorem ints_dpAll : ∀ (ns : List Int), DaAll K H (ns.map V.int) (ns.map .int)
  | [] => .nil
  | n :: ns => .cons (.int n) (ints_dpAll ns)
theorem dpAll_bls : ∀ {vs : List V} {bs : List Bool}, DaAll K H vs (bs.map .bool) → vs = bs.map V.bl
  | _, [], h => by cases h; rfl
  | _, n :: ns, h => by
    cases h with
    | cons h1 h2 => cases h1; rw [dpAll_bls h2]; rfl
theorem bls_dpAll : ∀ (bs : List Bool), DaAll K H (bs.map V.bl) (bs.map .bool)
  | [] => .nil
  | n :: ns => .cons (.bl n) (bls_dpAll ns)
end
/-! ### to the layer's own relation -/
section
variable {K : PySem.W.Frag} {H : Hp}
mutual
theorem da_dp : ∀ (d : D) {v : V}, d.canLay0 = true → Da K H v d → Dp K H v d
  | .none, _, _, h => by cases h; exact .non
  | .bool b, _, _, h => by cases h; exact .bl b
  | .int i, _, _, h => by cases h; exact .int i
  | .str x, _, _, h => by cases h; exact .str x
  | .list ds, _, c, h => by
    cases h with
    | lst hs ha => exact .lst (SqL.of hs) (daAll_dp ds (by simpa [PyData.canLay0] using c) ha)
  | .tuple ds, _, c, h => by
    cases h with
    | tup hs ha => exact .tup (SqT.of hs) (daAll_dp ds (by simpa [PyData.canLay0] using c) ha)
  | .dict _, _, c, _ => by simp [PyData.canLay0] at c
theorem daAll_dp : ∀ (ds : List D) {vs : List V}, PyData.canLayAll0 ds = true → DaAll K H vs ds → DpAll K H vs ds
  | [], _, _, h => by cases h; exact .nil
  | d :: ds, _, c, h => by
    have c' : d.canLay0 = true ∧ PyData.canLayAll0 ds = true := by simpa [PyData.canLayAll0] using c
    cases h with
    | cons h1 h2 => exact .cons (da_dp d c'.1 h1) (daAll_dp ds c'.2 h2)
end
end
/-! ### slots -/
def bhash (ks : List Bool) : Int := reduceHash (Builtin.Tuple.tupleHashOf (ks.map PpSet.hB))
def entB (x : List Bool × Addr × Value) : DictEntry := ⟨bhash x.1, .ref x.2.1, x.2.2⟩
/-- a dict keyed by tuples of truth values, by its entries -/
def patO (a : Addr) (xs : List (List Bool × Addr × Value)) : HO :=
  .ext fun h => ∃ o es ep, h.get? a = some o ∧ o.ExactDict ∧ o.data = .dict es ep ∧ es.toList = xs.map entB
inductive Slot where
  | un
  | imm (d : D)
  | lst (ds : List D)
  | dct (kvs : List (List Int × D))
  | pat (kvs : List (List Bool × D))
def Slot.own : Slot → Bool
  | .lst _ => true
  | .dct _ => true
  | .pat _ => true
  | _ => false
section
variable (K : PySem.W.Frag) (M : List Addr) (H : Hp)
def DctRel (vs : List (List Key × V)) (kvs : List (List Int × D)) : Prop :=
  Paired (fun (p : List Key × V) (q : List Int × D) => p.1 = q.1.map Sum.inl ∧ Da K (mask M H) p.2 q.2) vs kvs
def PatRel (xs : List (List Bool × Addr × Value)) (kvs : List (List Bool × D)) : Prop :=
  Paired (fun (x : List Bool × Addr × Value) (q : List Bool × D) => x.1 = q.1 ∧ mask M H x.2.1 = some (.tup (x.1.map V.bl)) ∧ ∃ v, RelV v x.2.2 ∧ Da K (mask M H) v q.2) xs kvs
def SlotOk (o : Option V) (a : Addr) : Slot → Prop
  | .un => True
  | .imm d => ∃ v, o = some v ∧ Da K (mask M H) v d
  | .lst ds => o = some (.ref a) ∧ a ∈ M ∧ ∃ vs, H a = some (.lst vs) ∧ DaAll K (mask M H) vs ds
  | .dct kvs => o = some (.ref a) ∧ a ∈ M ∧ ∃ vs, H a = some (.dT vs) ∧ DctRel K M H vs kvs
  | .pat kvs => o = some (.ref a) ∧ a ∈ M ∧ (a == sysModules) = false ∧ (kvs.map (·.1)).Nodup ∧ ∃ xs, H a = some (patO a xs) ∧ PatRel K M H xs kvs
structure Sm (ad : List Addr) (δ : List Slot) (σ : L2.St) : Prop where
  len : σ.length = δ.length
  ok : ∀ i s, δ[i]? = some s → SlotOk K M H (σ.getD i none) (ad.getD i 0) s
  inj : ∀ i j s t, δ[i]? = some s → δ[j]? = some t → s.own = true → t.own = true → ad.getD i 0 = ad.getD j 0 → i = j
  tr : ∀ a ∈ M, ∃ o, H a = some o
end
def Ow (ad : List Addr) (δ : List Slot) (a : Addr) : Prop := ∃ i s, δ[i]? = some s ∧ s.own = true ∧ ad.getD i 0 = a
def Keep (ad : List Addr) (δ : List Slot) (H H' : Hp) : Prop := ∀ a o, H a = some o → ¬ Ow ad δ a → H' a = some o
def Shp (δ δ' : List Slot) : Prop := ∀ i : Nat, (δ'[i]?).map Slot.own = (δ[i]?).map Slot.own
theorem Shp.refl (δ : List Slot) : Shp δ δ := fun _ => rfl
theorem Shp.trans {a b c : List Slot} (h : Shp a b) (g : Shp b c) : Shp a c := fun i => (g i).trans (h i)
theorem Shp.ow {ad : List Addr} {δ δ' : List Slot} (h : Shp δ δ') {a : Addr} (o : Ow ad δ' a) : Ow ad δ a := by
  obtain ⟨i, s, e, w, q⟩ := o
  have hi := h i
  rw [e] at hi
  cases e2 : δ[i]? with
  | none => rw [e2] at hi; cases hi
  | some t =>
    rw [e2] at hi
    have hi' : some s.own = some t.own := hi
    exact ⟨i, t, e2, by rw [← Option.some.inj hi']; exact w, q⟩
section
variable {K : PySem.W.Frag} {M : List Addr} {H H' : Hp} {ad : List Addr} {δ δ' : List Slot} {σ : L2.St}
theorem DctRel.mono (e : Same (mask M H) (mask M H')) {vs : List (List Key × V)} {kvs : List (List Int × D)} (h : DctRel K M H vs kvs) : DctRel K M H' vs kvs :=
  Paired.mapP h fun _ _ q => ⟨q.1, dp_mono e _ q.2⟩
theorem PatRel.mono (e : Same (mask M H) (mask M H')) {xs : List (List Bool × Addr × Value)} {kvs : List (List Bool × D)} (h : PatRel K M H xs kvs) : PatRel K M H' xs kvs :=
  Paired.mapP h fun _ _ ⟨q1, q2, v, q3, q4⟩ => ⟨q1, e _ _ q2, v, q3, dp_mono e _ q4⟩
/-- a slot stays: its own object (if it has one) stands, the rest grows -/
theorem SlotOk.mono {o : Option V} {a : Addr} {s : Slot} (h : SlotOk K M H o a s) (e : Same (mask M H) (mask M H')) (k : s.own = true → ∀ u, H a = some u → H' a = some u) : SlotOk K M H' o a s := by
  cases s with
  | un => trivial
  | imm d => obtain ⟨v, h1, h2⟩ := h; exact ⟨v, h1, dp_mono e _ h2⟩
  | lst ds => obtain ⟨h1, h2, vs, h3, h4⟩ := h; exact ⟨h1, h2, vs, k rfl _ h3, dpAll_mono e _ h4⟩
  | dct kvs => obtain ⟨h1, h2, vs, h3, h4⟩ := h; exact ⟨h1, h2, vs, k rfl _ h3, h4.mono e⟩
  | pat kvs => obtain ⟨h1, h2, h3, h4, xs, h5, h6⟩ := h; exact ⟨h1, h2, h3, h4, xs, k rfl _ h5, h6.mono e⟩
theorem SlotOk.inM {o : Option V} {a : Addr} {s : Slot} (h : SlotOk K M H o a s) (w : s.own = true) : a ∈ M ∧ o = some (.ref a) ∧ ∃ u, H a = some u ∧ Mut (some u) := by
  cases s with
  | un => cases w
  | imm d => cases w
  | lst ds => obtain ⟨h1, h2, vs, h3, _⟩ := h; exact ⟨h2, h1, _, h3, trivial⟩
  | dct kvs => obtain ⟨h1, h2, vs, h3, _⟩ := h; exact ⟨h2, h1, _, h3, trivial⟩
  | pat kvs => obtain ⟨h1, h2, _, _, xs, h5, _⟩ := h; exact ⟨h2, h1, _, h5, trivial⟩
theorem Sm.owM (h : Sm K M H ad δ σ) {a : Addr} (o : Ow ad δ a) : a ∈ M := by
  obtain ⟨i, s, e, w, q⟩ := o
  rw [← q]
  exact ((h.ok i s e).inM w).1
theorem Sm.freshM (h : Sm K M H ad δ σ) {a : Addr} (n : H a = none) : a ∉ M := fun z => by
  obtain ⟨o, e⟩ := h.tr a z
  rw [n] at e; cases e
theorem Sm.same (h : Sm K M H ad δ σ) (k : Keep ad δ H H') : Same (mask M H) (mask M H') := fun b u q => by
  obtain ⟨h1, h2⟩ := mask_some q
  rw [mask_out h1]
  exact k b u h2 fun o => h1 (h.owM o)
theorem Sm.grow (h : Sm K M H ad δ σ) (e : Same H H') : Sm K M H' ad δ σ :=
  ⟨h.len, fun i s q => (h.ok i s q).mono (same_mask e) fun _ u z => e _ u z, h.inj, fun a z => let ⟨o, q⟩ := h.tr a z; ⟨o, e a o q⟩⟩
end
/-- a step of evaluation: content of the owned may have changed, all else grew -/
structure Stp (K : PySem.W.Frag) (M : List Addr) (ad : List Addr) (σ : L2.St) (δ : List Slot) (H : Hp) (δ' : List Slot) (H' : Hp) : Prop where
  sm : Sm K M H' ad δ' σ
  keep : Keep ad δ H H'
  shp : Shp δ δ'
section
variable {K : PySem.W.Frag} {M : List Addr} {H H1 H2 : Hp} {ad : List Addr} {δ δ1 δ2 : List Slot} {σ : L2.St}
theorem Stp.trans (a : Stp K M ad σ δ H δ1 H1) (b : Stp K M ad σ δ1 H1 δ2 H2) : Stp K M ad σ δ H δ2 H2 :=
  ⟨b.sm, fun c o q n => b.keep c o (a.keep c o q n) fun z => n (a.shp.ow z), a.shp.trans b.shp⟩
theorem Stp.refl (h : Sm K M H ad δ σ) : Stp K M ad σ δ H δ H := ⟨h, fun _ _ q _ => q, .refl _⟩
theorem Stp.grow (h : Sm K M H ad δ σ) (e : Same H H1) : Stp K M ad σ δ H δ H1 := ⟨h.grow e, fun c o q _ => e c o q, .refl _⟩
end
/-! ### the static part -/
structure Ga where
  P : Program
  w : World
  K : PySem.W.Frag
  mg : Str → Option Value
  base : Heap
structure Sc where
  g : Ga
  k : Nat
  N : List Str
  sc : Scope
  top : Bool
  fc : Str → Bool
structure Sc.Ok (S : Sc) (X : Cx) : Prop where
  prog : X.prog = S.g.P
  w : X.w = S.g.w
  K : X.K = S.g.K
  mg : X.mg = S.g.mg
  base : X.base = S.g.base
  N : X.N = S.N
  sc : X.env.scope = S.sc
  calm : X.calm = true
  room : Room S.k X.A
  gd : X.A.guards = some []
  fn : S.top = true → ∀ x, X.fn x = true
  xe : X.xe = fun _ _ => False
  nd : S.N.Nodup
  fc : ∀ x, S.fc x = true → X.fn x = true
/-! ### the strongest readings -/
def TEx (X : Cx) (e : Expr) : TE := fun σ H Q => ∀ pins s, Inv X pins σ H s → wpAny (model X.prog X.w) X.A (eval e X.env) (EP X pins σ Q) X.xe s
def TTx (X : Cx) (e : Expr) : TT := fun σ H Q => ∀ pins s, Inv X pins σ H s → wpAny (model X.prog X.w) X.A (isTrue e X.env (eval e X.env)) (TP X pins σ Q) X.xe s
def TWx (X : Cx) (e : Expr) : TT := fun σ H Q => ∀ whole pins s, Inv X pins σ H s → wpAny (model X.prog X.w) X.A (isTrue e X.env whole) (TP X pins σ Q) X.xe s
def TAx (X : Cx) (es : List Expr) : TA := fun σ H Q => ∀ pos pins s, Inv X pins σ H s → wpAny (model X.prog X.w) X.A (spliced (backTo pos (starEach es X.env))) (AP X pins σ Q) X.xe s
def TSx (X : Cx) (st : Stmt) : TS := fun Dn σ H => ∀ pins s, Inv X pins σ H s → wpAny (model X.prog X.w) X.A (exec st X.env) (SP X pins Dn) X.xe s
def TSsx (X : Cx) (st : List Stmt) : TS := fun Dn σ H => ∀ pins s, Inv X pins σ H s → wpAny (model X.prog X.w) X.A (execs st X.env) (SP X pins Dn) X.xe s
section
variable {X : Cx} {σ : L2.St} {H : Hp}
theorem pe_x {e : Expr} : PE X e (TEx X e) := ⟨fun pins s σ H Q I h => h pins s I⟩
theorem pt_x {e : Expr} : PT X e (TTx X e) := ⟨fun pins s σ H Q I h => h pins s I⟩
theorem pw_x {e : Expr} : PW X e (TWx X e) := ⟨fun wh pins s σ H Q I h => h wh pins s I⟩
theorem pa_x {es : List Expr} : PA X es (TAx X es) := ⟨fun pos pins s σ H Q I h => h pos pins s I⟩
theorem ps_x {st : Stmt} : PS X st (TSx X st) := ⟨fun pins s σ H Dn I h => h pins s I⟩
theorem pss_x {st : List Stmt} : PSs X st (TSsx X st) := ⟨fun pins s σ H Dn I h => h pins s I⟩
theorem te_of {e : Expr} {t : TE} (h : PE X e t) {Q : VK} (q : t σ H Q) : TEx X e σ H Q := fun pins s I => h.run pins s σ H Q I q
theorem tt_of {e : Expr} {t : TT} (h : PT X e t) {Q : Bool → Hp → Prop} (q : t σ H Q) : TTx X e σ H Q := fun pins s I => h.run pins s σ H Q I q
theorem tw_of {e : Expr} {t : TT} (h : PW X e t) {Q : Bool → Hp → Prop} (q : t σ H Q) : TWx X e σ H Q := fun wh pins s I => h.run wh pins s σ H Q I q
theorem ta_of {es : List Expr} {t : TA} (h : PA X es t) {Q : List V → Hp → Prop} (q : t σ H Q) : TAx X es σ H Q := fun pos pins s I => h.run pos pins s σ H Q I q
theorem ts_of {st : Stmt} {t : TS} (h : PS X st t) {Dn : Ends} (q : t Dn σ H) : TSx X st Dn σ H := fun pins s I => h.run pins s σ H Dn I q
theorem tss_of {st : List Stmt} {t : TS} (h : PSs X st t) {Dn : Ends} (q : t Dn σ H) : TSsx X st Dn σ H := fun pins s I => h.run pins s σ H Dn I q
theorem te_mono {e : Expr} {Q Q' : VK} (h : TEx X e σ H Q) (k : ∀ v H', Q v H' → Q' v H') : TEx X e σ H Q' := fun pins s I =>
  thn (h pins s I) fun _ _ ⟨v, H', I', r, q⟩ => ⟨v, H', I', r, k v H' q⟩
theorem tt_mono {e : Expr} {Q Q' : Bool → Hp → Prop} (h : TTx X e σ H Q) (k : ∀ v H', Q v H' → Q' v H') : TTx X e σ H Q' := fun pins s I =>
  thn (h pins s I) fun _ _ ⟨H', I', q⟩ => ⟨H', I', k _ H' q⟩
theorem tw_mono {e : Expr} {Q Q' : Bool → Hp → Prop} (h : TWx X e σ H Q) (k : ∀ v H', Q v H' → Q' v H') : TWx X e σ H Q' := fun wh pins s I =>
  thn (h wh pins s I) fun _ _ ⟨H', I', q⟩ => ⟨H', I', k _ H' q⟩
theorem ta_mono {es : List Expr} {Q Q' : List V → Hp → Prop} (h : TAx X es σ H Q) (k : ∀ v H', Q v H' → Q' v H') : TAx X es σ H Q' := fun pos pins s I =>
  thn (h pos pins s I) fun _ _ ⟨vs, H', I', r, q⟩ => ⟨vs, H', I', r, k vs H' q⟩
end
/-! ### the judgements on data -/
section
variable (S : Sc)
def EvD (e : Expr) (δ : List Slot) (Q : D → List Slot → Prop) : Prop :=
  ∀ X, S.Ok X → ∀ M ad σ H, Sm S.g.K M H ad δ σ → TEx X e σ H fun v H' => ∃ d δ', Q d δ' ∧ Stp S.g.K M ad σ δ H δ' H' ∧ Da S.g.K (mask M H') v d
def EtD (e : Expr) (δ : List Slot) (Q : Bool → List Slot → Prop) : Prop :=
  ∀ X, S.Ok X → ∀ M ad σ H, Sm S.g.K M H ad δ σ → TTx X e σ H fun b H' => ∃ δ', Q b δ' ∧ Stp S.g.K M ad σ δ H δ' H'
def EwD (e : Expr) (δ : List Slot) (Q : Bool → List Slot → Prop) : Prop :=
  ∀ X, S.Ok X → ∀ M ad σ H, Sm S.g.K M H ad δ σ → TWx X e σ H fun b H' => ∃ δ', Q b δ' ∧ Stp S.g.K M ad σ δ H δ' H'
/-- an argument: data, or an owned thing by its slot -/
inductive Ar where
  | imm (d : D)
  | own (i : Nat)
def ArOk (K : PySem.W.Frag) (M : List Addr) (H : Hp) (ad : List Addr) (δ : List Slot) (v : V) : Ar → Prop
  | .imm d => Da K (mask M H) v d
  | .own i => v = .ref (ad.getD i 0) ∧ ∃ s, δ[i]? = some s ∧ s.own = true
def EaD (es : List Expr) (δ : List Slot) (Q : List Ar → List Slot → Prop) : Prop :=
  ∀ X, S.Ok X → ∀ M ad σ H, Sm S.g.K M H ad δ σ → TAx X es σ H fun vs H' => ∃ as δ', Q as δ' ∧ Stp S.g.K M ad σ δ H δ' H' ∧ Paired (ArOk S.g.K M H' ad δ') vs as
end
section
variable {S : Sc} {e : Expr} {es : List Expr} {δ : List Slot}
theorem ev_mono {Q Q' : D → List Slot → Prop} (h : EvD S e δ Q) (k : ∀ d δ', Q d δ' → Q' d δ') : EvD S e δ Q' := fun X ok M ad σ H sm =>
  te_mono (h X ok M ad σ H sm) fun v H' ⟨d, δ', q, r⟩ => ⟨d, δ', k _ _ q, r⟩
theorem et_mono {Q Q' : Bool → List Slot → Prop} (h : EtD S e δ Q) (k : ∀ d δ', Q d δ' → Q' d δ') : EtD S e δ Q' := fun X ok M ad σ H sm =>
  tt_mono (h X ok M ad σ H sm) fun v H' ⟨δ', q, r⟩ => ⟨δ', k _ _ q, r⟩
theorem ea_mono {Q Q' : List Ar → List Slot → Prop} (h : EaD S es δ Q) (k : ∀ d δ', Q d δ' → Q' d δ') : EaD S es δ Q' := fun X ok M ad σ H sm =>
  ta_mono (h X ok M ad σ H sm) fun v H' ⟨d, δ', q, r⟩ => ⟨d, δ', k _ _ q, r⟩
theorem ArOk.mono {K : PySem.W.Frag} {M : List Addr} {H H' : Hp} {ad : List Addr} {δ δ' : List Slot} {v : V} {a : Ar} (h : ArOk K M H ad δ v a) (e : Same (mask M H) (mask M H')) (sh : Shp δ δ') : ArOk K M H' ad δ' v a := by
  cases a with
  | imm d => exact dp_mono e d h
  | own i =>
    obtain ⟨h1, s, h2, h3⟩ := h
    refine ⟨h1, ?_⟩
    have q := sh i
    rw [h2] at q
    cases e2 : δ'[i]? with
    | none => rw [e2] at q; cases q
    | some t =>
      rw [e2] at q
      have q' : some t.own = some s.own := q
      exact ⟨t, rfl, by rw [Option.some.inj q']; exact h3⟩
/-! ### names, constants -/
/-- the slot of a name -/
inductive Look : List Str → List Slot → Str → Nat → Slot → Prop
  | here {N : List Str} {δ : List Slot} {x : Str} {s : Slot} : Look (x :: N) (s :: δ) x 0 s
  | there {N : List Str} {δ : List Slot} {x y : Str} {s t : Slot} {i : Nat} : Look N δ x i s → Look (y :: N) (t :: δ) x (i + 1) s
theorem Look.name : ∀ {N : List Str} {δ : List Slot} {x : Str} {i : Nat} {s : Slot}, Look N δ x i s → N[i]? = some x
  | _, _, _, _, _, .here => rfl
  | _, _, _, _, _, .there h => by rw [List.getElem?_cons_succ]; exact h.name
theorem Look.slot : ∀ {N : List Str} {δ : List Slot} {x : Str} {i : Nat} {s : Slot}, Look N δ x i s → δ[i]? = some s
  | _, _, _, _, _, .here => rfl
  | _, _, _, _, _, .there h => by rw [List.getElem?_cons_succ]; exact h.slot
theorem getD_some {α : Type} {l : List α} {i : Nat} {d x : α} (h : l[i]? = some x) : l.getD i d = x := by
  rw [List.getD_eq_getElem?_getD, h]; rfl
theorem slot_some {σ : L2.St} {i : Nat} {v : V} (h : σ.getD i none = some v) : σ[i]? = some (some v) := by
  rw [List.getD_eq_getElem?_getD] at h
  cases e : σ[i]? with
  | none => rw [e] at h; cases h
  | some o => rw [e] at h; exact congrArg some h
theorem vis_of {X : Cx} (ok : S.Ok X) {x : Str} (h : Vis S.sc x) : Vis X.env.scope x := by rw [ok.sc]; exact h
theorem ev_var {x : Str} {pos : Pos} {i : Nat} {d : D} {Q : D → List Slot → Prop} (l : Look S.N δ x i (.imm d)) (hv : Vis S.sc x) (q : Q d δ) (hd : (x == ("__debug__" : Str)) = false := by decide) (hcd : (x == ("__classdict__" : Str)) = false := by decide) : EvD S (.Name x pos) δ Q := by
  intro X ok M ad σ H sm
  obtain ⟨v, e1, e2⟩ := sm.ok i _ l.slot
  exact te_of (pe_var (i := i) (by rw [ok.N]; exact l.name) (vis_of ok hv) hd hcd) ⟨v, slot_some e1, d, δ, q, .refl sm, e2⟩
theorem ev_int {i : Int} {j : Nat} {pos : Pos} {Q : D → List Slot → Prop} (q : Q (.int i) δ) : EvD S (.Constant (.int i) j pos) δ Q := fun X ok M ad σ H sm => te_of pe_int ⟨_, _, q, .refl sm, .int i⟩
theorem ev_bl {b : Bool} {j : Nat} {pos : Pos} {Q : D → List Slot → Prop} (q : Q (.bool b) δ) : EvD S (.Constant (.bool b) j pos) δ Q := fun X ok M ad σ H sm => te_of pe_bl ⟨_, _, q, .refl sm, .bl b⟩
theorem ev_str {x : Str} {j : Nat} {pos : Pos} {Q : D → List Slot → Prop} (q : Q (.str x) δ) : EvD S (.Constant (.str x) j pos) δ Q := fun X ok M ad σ H sm => te_of pe_str ⟨_, _, q, .refl sm, .str x⟩
theorem ev_non {j : Nat} {pos : Pos} {Q : D → List Slot → Prop} (q : Q .none δ) : EvD S (.Constant .none j pos) δ Q := fun X ok M ad σ H sm => te_of pe_non ⟨_, _, q, .refl sm, .non⟩
/-! ### operators -/
def ROp (X : Cx) (f : Value → Value → Sem Value) : R2 := fun x y H Q => ∀ pins s σ v u, Inv X pins σ H s → RelV x v → RelV y u → wpAny (model X.prog X.w) X.A (f v u) (EP X pins σ Q) X.xe s
theorem opR_x {X : Cx} {f : Value → Value → Sem Value} : OpR X f (ROp X f) := fun pins s σ H x y v u Q I rx ry h => h pins s σ v u I rx ry
theorem rop_of {X : Cx} {f : Value → Value → Sem Value} {r : R2} (h : OpR X f r) {x y : V} {H : Hp} {Q : VK} (q : r x y H Q) : ROp X f x y H Q := fun pins s σ v u I rx ry => h pins s σ H x y v u Q I rx ry q
/-- the operator f gives z of x, y; new things may be made -/
def OpD (S : Sc) (f : Value → Value → Sem Value) (x y z : D) : Prop :=
  ∀ X, S.Ok X → ∀ M H v u, (∀ a ∈ M, ∃ o, H a = some o) → Da S.g.K (mask M H) v x → Da S.g.K (mask M H) u y → ROp X f v u H fun t H' => Same H H' ∧ Da S.g.K (mask M H') t z
theorem ev_op {a b : Expr} {op : Operator} {pos : Pos} {Q : D → List Slot → Prop} (h : EvD S a δ fun x δ1 => EvD S b δ1 fun y δ2 => ∃ z, OpD S (binaryOp op) x y z ∧ Q z δ2) : EvD S (.BinOp a op b pos) δ Q := by
  intro X ok M ad σ H sm
  refine te_of (pe_op opR_x pe_x pe_x) (te_mono (h X ok M ad σ H sm) fun v H1 ⟨x, δ1, q1, st1, d1⟩ => te_mono (q1 X ok M ad σ H1 st1.sm) fun u H2 ⟨y, δ2, ⟨z, o, q2⟩, st2, d2⟩ => ?_)
  intro pins s σ' v' u' I rx ry
  refine thn (o X ok M H2 v u st2.sm.tr (dp_mono (st1.sm.same st2.keep) _ d1) d2 pins s σ' v' u' I rx ry) fun r s' ⟨t, H3, I3, r3, e3, d3⟩ => ?_
  exact ⟨t, H3, I3, r3, z, δ2, q2, (st1.trans st2).trans (.grow st2.sm e3), d3⟩
theorem ev_cmp {a b : Expr} {op : CmpOp} {pos : Pos} {Q : D → List Slot → Prop} (h : EvD S a δ fun x δ1 => EvD S b δ1 fun y δ2 => ∃ z, OpD S (compareOp op) x y z ∧ Q z δ2) (hm : behindInMarks op b = false) : EvD S (.Compare a [op] [b] pos) δ Q := by
  intro X ok M ad σ H sm
  refine te_of (pe_cmpR opR_x pe_x pe_x hm) (te_mono (h X ok M ad σ H sm) fun v H1 ⟨x, δ1, q1, st1, d1⟩ => te_mono (q1 X ok M ad σ H1 st1.sm) fun u H2 ⟨y, δ2, ⟨z, o, q2⟩, st2, d2⟩ => ?_)
  intro pins s σ' v' u' I rx ry
  refine thn (o X ok M H2 v u st2.sm.tr (dp_mono (st1.sm.same st2.keep) _ d1) d2 pins s σ' v' u' I rx ry) fun r s' ⟨t, H3, I3, r3, e3, d3⟩ => ?_
  exact ⟨t, H3, I3, r3, z, δ2, q2, (st1.trans st2).trans (.grow st2.sm e3), d3⟩
theorem et_cmp {a b : Expr} {op : CmpOp} {pos : Pos} {Q : Bool → List Slot → Prop} (h : EvD S a δ fun x δ1 => EvD S b δ1 fun y δ2 => ∃ z, OpD S (compareOp op) x y (.bool z) ∧ Q z δ2) (hm : behindInMarks op b = false) : EtD S (.Compare a [op] [b] pos) δ Q := by
  intro X ok M ad σ H sm
  refine tt_of (pt_cmpR opR_x pe_x pe_x hm) (te_mono (h X ok M ad σ H sm) fun v H1 ⟨x, δ1, q1, st1, d1⟩ => te_mono (q1 X ok M ad σ H1 st1.sm) fun u H2 ⟨y, δ2, ⟨z, o, q2⟩, st2, d2⟩ => ?_)
  intro pins s σ' v' u' I rx ry
  refine thn (o X ok M H2 v u st2.sm.tr (dp_mono (st1.sm.same st2.keep) _ d1) d2 pins s σ' v' u' I rx ry) fun r s' ⟨t, H3, I3, r3, e3, d3⟩ => ?_
  cases d3
  exact ⟨_, H3, I3, r3, z, rfl, δ2, q2, (st1.trans st2).trans (.grow st2.sm e3)⟩
/-- a < b < c -/
theorem et_chain {a b c : Expr} {op op' : CmpOp} {pos : Pos} {Q : Bool → List Slot → Prop}
    (h : EvD S a δ fun x δ1 => EvD S b δ1 fun y δ2 => ∃ k, OpD S (compareOp op) x y (.bool k) ∧ (k = false → Q false δ2) ∧ (k = true → EvD S c δ2 fun z δ3 => ∃ k', OpD S (compareOp op') y z (.bool k') ∧ Q k' δ3))
    (hm : lastMarks [op, op'] [b, c] = false) : EtD S (.Compare a [op, op'] [b, c] pos) δ Q := by
  intro X ok M ad σ H sm
  refine tt_of (pt_chain opR_x opR_x pe_x pe_x pe_x hm) (te_mono (h X ok M ad σ H sm) fun v H1 ⟨x, δ1, q1, st1, d1⟩ => te_mono (q1 X ok M ad σ H1 st1.sm) fun u H2 ⟨y, δ2, ⟨k, o, q2, q2'⟩, st2, d2⟩ => ?_)
  intro pins s σ' v' u' I rx ry
  refine thn (o X ok M H2 v u st2.sm.tr (dp_mono (st1.sm.same st2.keep) _ d1) d2 pins s σ' v' u' I rx ry) fun r s' ⟨t, H3, I3, r3, e3, d3⟩ => ?_
  cases d3
  have st3 := (st1.trans st2).trans (.grow st2.sm e3)
  refine ⟨_, H3, I3, r3, k, rfl, ?_⟩
  cases k with
  | false => exact ⟨false, rfl, δ2, q2 rfl, st3⟩
  | true =>
    refine te_mono (q2' rfl X ok M ad σ H3 st3.sm) fun w H4 ⟨z, δ4, ⟨k', o', q4⟩, st4, d4⟩ => ?_
    intro pins s σ' v' u' I rx ry
    refine thn (o' X ok M H4 u w st4.sm.tr (dp_mono (st3.sm.same st4.keep) _ (dp_mono (same_mask e3) _ d2)) d4 pins s σ' v' u' I rx ry) fun r s' ⟨t, H5, I5, r5, e5, d5⟩ => ?_
    cases d5
    exact ⟨_, H5, I5, r5, k', rfl, δ4, q4, (st3.trans st4).trans (.grow st4.sm e5)⟩
end
end Fb
end
section
namespace Fb
open PySem PySem.Spec PyProof.Rows L2
/-! ### operators on data -/
abbrev tI (ns : List Int) : D := .tuple (ns.map .int)
abbrev lI (ns : List Int) : D := .list (ns.map .int)
abbrev tB (bs : List Bool) : D := .tuple (bs.map .bool)
abbrev lB (bs : List Bool) : D := .list (bs.map .bool)
section
variable {S : Sc}
theorem hu65 {X : Cx} (ok : S.Ok X) : X.A.units + 65 < cLine := by have := ok.room.un; omega
theorem hu64 {X : Cx} (ok : S.Ok X) : X.A.units + 64 < cLine := by have := ok.room.un; omega
theorem hu1 {X : Cx} (ok : S.Ok X) : X.A.units + 1 < cLine := by have := ok.room.un; omega
theorem o_cast {f : Value → Value → Sem Value} {x y z z' : D} (h : OpD S f x y z) (e : z = z') : OpD S f x y z' := e ▸ h
theorem o_add {i j : Int} : OpD S (binaryOp .Add) (.int i) (.int j) (.int (i + j)) := fun X ok M H v u tr dx dy => by
  cases dx; cases dy; exact rop_of op_add ⟨i, j, rfl, rfl, Same.refl _, .int _⟩
theorem o_sub {i j : Int} : OpD S (binaryOp .Sub) (.int i) (.int j) (.int (i - j)) := fun X ok M H v u tr dx dy => by
  cases dx; cases dy; exact rop_of op_sub ⟨i, j, rfl, rfl, Same.refl _, .int _⟩
theorem o_mul {i j : Int} (h : CMul i j) : OpD S (binaryOp .Mult) (.int i) (.int j) (.int (i * j)) := fun X ok M H v u tr dx dy => by
  cases dx; cases dy; exact rop_of op_mul ⟨i, j, rfl, rfl, h, Same.refl _, .int _⟩
theorem o_mod {i j : Int} (h : 0 < j) : OpD S (binaryOp .Mod) (.int i) (.int j) (.int (i % j)) := fun X ok M H v u tr dx dy => by
  cases dx; cases dy; exact rop_of op_mod ⟨i, j, rfl, rfl, h, Same.refl _, .int _⟩
theorem o_fdiv {i j : Int} (h : CDiv i j) : OpD S (binaryOp .FloorDiv) (.int i) (.int j) (.int (i / j)) := fun X ok M H v u tr dx dy => by
  cases dx; cases dy; exact rop_of op_fdiv ⟨i, j, rfl, rfl, h, Same.refl _, .int _⟩
theorem o_pow {i j : Int} (h : CPow i j) : OpD S (binaryOp .Pow) (.int i) (.int j) (.int (i ^ j.toNat)) := fun X ok M H v u tr dx dy => by
  cases dx; cases dy; exact rop_of op_pow ⟨i, j, rfl, rfl, h, Same.refl _, .int _⟩
theorem o_addS {x y : Str} (h : x.length + y.length ≤ sizeLine) : OpD S (binaryOp .Add) (.str x) (.str y) (.str (x ++ y)) := fun X ok M H v u tr dx dy => by
  cases dx; cases dy; exact rop_of op_add_str ⟨x, y, rfl, rfl, h, Same.refl _, .str _⟩
theorem o_lt {i j : Int} : OpD S (compareOp .Lt) (.int i) (.int j) (.bool (decide (i < j))) := fun X ok M H v u tr dx dy => by
  cases dx; cases dy; exact rop_of op_lt ⟨i, j, rfl, rfl, Same.refl _, .bl _⟩
theorem o_le {i j : Int} : OpD S (compareOp .LtE) (.int i) (.int j) (.bool (decide (i ≤ j))) := fun X ok M H v u tr dx dy => by
  cases dx; cases dy; exact rop_of op_le ⟨i, j, rfl, rfl, Same.refl _, .bl _⟩
theorem o_gt {i j : Int} : OpD S (compareOp .Gt) (.int i) (.int j) (.bool (decide (j < i))) := fun X ok M H v u tr dx dy => by
  cases dx; cases dy; exact rop_of op_gt ⟨i, j, rfl, rfl, Same.refl _, .bl _⟩
theorem o_ge {i j : Int} : OpD S (compareOp .GtE) (.int i) (.int j) (.bool (decide (j ≤ i))) := fun X ok M H v u tr dx dy => by
  cases dx; cases dy; exact rop_of op_ge ⟨i, j, rfl, rfl, Same.refl _, .bl _⟩
theorem freshD {M : List Addr} {H : Hp} {p : Addr} (tr : ∀ a ∈ M, ∃ o, H a = some o) (n : H p = none) : p ∉ M := fun z => by
  obtain ⟨o, e⟩ := tr p z
  rw [n] at e; cases e
theorem new_tup {K : PySem.W.Frag} {M : List Addr} {H : Hp} {p : Addr} {xs : List V} {ds : List D} (tr : ∀ a ∈ M, ∃ o, H a = some o) (n : H p = none) (d : DaAll K (mask M H) xs ds) : Same H (upd H p (.tup xs)) ∧ Da K (mask M (upd H p (.tup xs))) (.ref p) (.tuple ds) := by
  have e := same_new (o := .tup xs) n
  refine ⟨e, .tup ?_ (dpAll_mono (same_mask e) _ d)⟩
  rw [mask_out (freshD tr n), upd_same]
theorem new_lst {K : PySem.W.Frag} {M : List Addr} {H : Hp} {p : Addr} {xs : List V} {ds : List D} (tr : ∀ a ∈ M, ∃ o, H a = some o) (n : H p = none) (d : DaAll K (mask M H) xs ds) : Same H (upd H p (.lst xs)) ∧ Da K (mask M (upd H p (.lst xs))) (.ref p) (.list ds) := by
  have e := same_new (o := .lst xs) n
  refine ⟨e, .lst ?_ (dpAll_mono (same_mask e) _ d)⟩
  rw [mask_out (freshD tr n), upd_same]
theorem dp_up {K : PySem.W.Frag} {M : List Addr} {H : Hp} {v : V} {d : D} (h : Da K (mask M H) v d) : Da K H v d := dp_mono mask_le _ h
theorem dpAll_up {K : PySem.W.Frag} {M : List Addr} {H : Hp} {v : List V} {d : List D} (h : DaAll K (mask M H) v d) : DaAll K H v d := dpAll_mono mask_le _ h
/-- t + u, tuples -/
theorem o_catT {xs ys : List D} (h : xs.length + ys.length ≤ sizeLine) : OpD S (binaryOp .Add) (.tuple xs) (.tuple ys) (.tuple (xs ++ ys)) := fun X ok M H v u tr dx dy => by
  cases dx with
  | tup h1 a1 =>
    cases dy with
    | tup h2 a2 =>
      have l1 := dpAll_len a1
      have l2 := dpAll_len a2
      rename_i a vs b us
      refine rop_of op_catA ⟨a, b, vs, us, rfl, rfl, SqT.of (mask_some h1).2, SqT.of (mask_some h2).2, by omega, fun e => ?_, fun e e2 => ?_, fun e e2 p hp => ?_⟩
      · subst e
        cases a1
        exact ⟨Same.refl _, .tup h2 a2⟩
      · subst e2
        cases a2
        rw [List.append_nil]
        exact ⟨Same.refl _, .tup h1 a1⟩
      · exact new_tup tr hp (dpAll_append a1 a2)
theorem o_catL {xs ys : List D} (h : xs.length + ys.length ≤ sizeLine) : OpD S (binaryOp .Add) (.list xs) (.list ys) (.list (xs ++ ys)) := fun X ok M H v u tr dx dy => by
  cases dx with
  | lst h1 a1 =>
    cases dy with
    | lst h2 a2 =>
      have l1 := dpAll_len a1
      have l2 := dpAll_len a2
      rename_i a vs b us
      exact rop_of op_cat ⟨a, b, vs, us, rfl, rfl, (mask_some h1).2, (mask_some h2).2, by omega, fun p hp => new_lst tr hp (dpAll_append a1 a2)⟩
theorem dpAll_rep {K : PySem.W.Frag} {H : Hp} {vs : List V} {ds : List D} (h : DaAll K H vs ds) : ∀ n : Nat, DaAll K H (List.replicate n vs).flatten (List.replicate n ds).flatten
  | 0 => .nil
  | n + 1 => by
    rw [List.replicate_succ, List.replicate_succ, List.flatten_cons, List.flatten_cons]
    exact dpAll_append h (dpAll_rep h n)
theorem o_repL {xs : List D} {k : Int} (h0 : 0 ≤ k) (h1 : k < 1000) (h : xs.length * k.toNat ≤ sizeLine) : OpD S (binaryOp .Mult) (.list xs) (.int k) (.list (List.replicate k.toNat xs).flatten) := fun X ok M H v u tr dx dy => by
  cases dx with
  | lst h2 a2 =>
    cases dy
    have l2 := dpAll_len a2
    rename_i a vs
    exact rop_of op_rep ⟨a, k, vs, rfl, rfl, (mask_some h2).2, by omega, by omega, by rw [l2]; exact h, fun p hp => new_lst tr hp (dpAll_rep a2 _)⟩
/-- == and != of data -/
theorem o_eq {x y : D} (hx : SeqAt.shaped x = true) (hy : SeqAt.shaped y = true) : OpD S (compareOp .Eq) x y (.bool (PyData.eqv x y)) := fun X ok M H v u tr dx dy => by
  refine rop_of (op_eqD (hu64 ok)) ⟨x, y, ?_, ?_, hx, hy, Same.refl _, .bl _⟩
  · rw [ok.K]; exact da_dp _ (SeqAt.canLay_of_shaped hx) (dp_up dx)
  · rw [ok.K]; exact da_dp _ (SeqAt.canLay_of_shaped hy) (dp_up dy)
theorem o_ne {x y : D} (hx : SeqAt.shaped x = true) (hy : SeqAt.shaped y = true) : OpD S (compareOp .NotEq) x y (.bool (!PyData.eqv x y)) := fun X ok M H v u tr dx dy => by
  refine rop_of (op_neD (hu64 ok)) ⟨x, y, ?_, ?_, hx, hy, Same.refl _, .bl _⟩
  · rw [ok.K]; exact da_dp _ (SeqAt.canLay_of_shaped hx) (dp_up dx)
  · rw [ok.K]; exact da_dp _ (SeqAt.canLay_of_shaped hy) (dp_up dy)
theorem o_eqI {i j : Int} : OpD S (compareOp .Eq) (.int i) (.int j) (.bool (decide (i = j))) := fun X ok M H v u tr dx dy => by
  cases dx; cases dy
  refine rop_of op_eq ⟨rfl, Same.refl _, ?_⟩
  have e : decide (V.int i = V.int j) = decide (i = j) := by rw [dec_int, Bool.beq_eq_decide_eq]
  rw [e]
  exact .bl _
theorem o_neI {i j : Int} : OpD S (compareOp .NotEq) (.int i) (.int j) (.bool (!decide (i = j))) := fun X ok M H v u tr dx dy => by
  cases dx; cases dy
  refine rop_of op_ne ⟨rfl, Same.refl _, ?_⟩
  have e : decide (V.int i = V.int j) = decide (i = j) := by rw [dec_int, Bool.beq_eq_decide_eq]
  rw [e]
  exact .bl _
theorem o_eqB {i j : Bool} : OpD S (compareOp .Eq) (.bool i) (.bool j) (.bool (i == j)) := fun X ok M H v u tr dx dy => by
  cases dx; cases dy
  refine rop_of op_eq ⟨rfl, Same.refl _, ?_⟩
  rw [dec_bl]
  exact .bl _
theorem o_eqS {i j : Str} : OpD S (compareOp .Eq) (.str i) (.str j) (.bool (i == j)) := fun X ok M H v u tr dx dy => by
  cases dx; cases dy
  refine rop_of op_eq ⟨rfl, Same.refl _, ?_⟩
  rw [dec_str]
  exact .bl _
theorem o_neS {i j : Str} : OpD S (compareOp .NotEq) (.str i) (.str j) (.bool (!(i == j))) := fun X ok M H v u tr dx dy => by
  cases dx; cases dy
  refine rop_of op_ne ⟨rfl, Same.refl _, ?_⟩
  rw [dec_str]
  exact .bl _
theorem o_isB {i j : Bool} : OpD S (compareOp .Is) (.bool i) (.bool j) (.bool (decide (i = j))) := fun X ok M H v u tr dx dy => by
  cases dx; cases dy
  exact rop_of op_is_bl ⟨i, j, rfl, rfl, Same.refl _, .bl _⟩
/-- in -/
theorem inV_ints (i : Int) : ∀ ns : List Int, inV (.int i) (ns.map V.int) = decide (i ∈ ns)
  | [] => by simp [inV]
  | n :: ns => by
    have ih := inV_ints i ns
    unfold inV at ih ⊢
    rw [List.map_cons, List.any_cons, ih]
    show ((n == i) || decide (i ∈ ns)) = _
    by_cases h : i = n
    · subst h; simp
    · have h' : n ≠ i := fun e => h e.symm
      simp [h, h']
theorem flat_ints : ∀ ns : List Int, (ns.map V.int).all flatV = true
  | [] => rfl
  | n :: ns => by rw [List.map_cons, List.all_cons, flat_ints ns]; rfl
theorem o_inT {i : Int} {ns : List Int} : OpD S (compareOp .In) (.int i) (tI ns) (.bool (decide (i ∈ ns))) := fun X ok M H v u tr dx dy => by
  cases dx
  cases dy with
  | tup h2 a2 =>
    rw [dpAll_ints a2] at h2
    refine rop_of op_in_seq ⟨_, _, rfl, .inr (SqT.of (mask_some h2).2), rfl, flat_ints ns, Same.refl _, ?_⟩
    rw [inV_ints]
    exact .bl _
theorem o_inL {i : Int} {ns : List Int} : OpD S (compareOp .In) (.int i) (lI ns) (.bool (decide (i ∈ ns))) := fun X ok M H v u tr dx dy => by
  cases dx
  cases dy with
  | lst h2 a2 =>
    rw [dpAll_ints a2] at h2
    refine rop_of op_in_seq ⟨_, _, rfl, .inl (SqL.of (mask_some h2).2), rfl, flat_ints ns, Same.refl _, ?_⟩
    rw [inV_ints]
    exact .bl _
theorem o_niT {i : Int} {ns : List Int} : OpD S (compareOp .NotIn) (.int i) (tI ns) (.bool (!decide (i ∈ ns))) := fun X ok M H v u tr dx dy => by
  cases dx
  cases dy with
  | tup h2 a2 =>
    rw [dpAll_ints a2] at h2
    refine rop_of op_notIn_seq ⟨_, _, rfl, .inr (SqT.of (mask_some h2).2), rfl, flat_ints ns, Same.refl _, ?_⟩
    rw [inV_ints]
    exact .bl _
theorem o_niL {i : Int} {ns : List Int} : OpD S (compareOp .NotIn) (.int i) (lI ns) (.bool (!decide (i ∈ ns))) := fun X ok M H v u tr dx dy => by
  cases dx
  cases dy with
  | lst h2 a2 =>
    rw [dpAll_ints a2] at h2
    refine rop_of op_notIn_seq ⟨_, _, rfl, .inl (SqL.of (mask_some h2).2), rfl, flat_ints ns, Same.refl _, ?_⟩
    rw [inV_ints]
    exact .bl _
/-- x in a list of data, at any depth -/
theorem o_inD {x : D} {ds : List D} (hx : SeqAt.shaped x = true) (hy : SeqAt.shaped (.list ds) = true) : OpD S (compareOp .In) x (.list ds) (.bool (ds.any fun z => PyData.eqv z x)) := fun X ok M H v u tr dx dy => by
  refine rop_of (op_inD (hu65 ok)) ⟨x, ds, ?_, ?_, hx, hy, Same.refl _, .bl _⟩
  · rw [ok.K]; exact da_dp _ (SeqAt.canLay_of_shaped hx) (dp_up dx)
  · rw [ok.K]; exact da_dp _ (SeqAt.canLay_of_shaped hy) (dp_up dy)
theorem o_niD {x : D} {ds : List D} (hx : SeqAt.shaped x = true) (hy : SeqAt.shaped (.list ds) = true) : OpD S (compareOp .NotIn) x (.list ds) (.bool (!ds.any fun z => PyData.eqv z x)) := fun X ok M H v u tr dx dy => by
  refine rop_of (op_notInD (hu65 ok)) ⟨x, ds, ?_, ?_, hx, hy, Same.refl _, .bl _⟩
  · rw [ok.K]; exact da_dp _ (SeqAt.canLay_of_shaped hx) (dp_up dx)
  · rw [ok.K]; exact da_dp _ (SeqAt.canLay_of_shaped hy) (dp_up dy)
/-- a text among texts -/
theorem dpAll_strs {K : PySem.W.Frag} {H : Hp} : ∀ {vs : List V} {ns : List Str}, DaAll K H vs (ns.map .str) → vs = ns.map V.str
  | _, [], h => by cases h; rfl
  | _, n :: ns, h => by
    cases h with
    | cons h1 h2 => cases h1; rw [dpAll_strs h2]; rfl
theorem flat_strs' : ∀ ns : List Str, (ns.map V.str).all flatV = true
  | [] => rfl
  | n :: ns => by rw [List.map_cons, List.all_cons, flat_strs' ns]; rfl
theorem inV_strs (i : Str) : ∀ ns : List Str, inV (.str i) (ns.map V.str) = ns.any (· == i)
  | [] => rfl
  | n :: ns => by
    have ih := inV_strs i ns
    unfold inV at ih ⊢
    rw [List.map_cons, List.any_cons, ih, List.any_cons]
    rfl
theorem o_niS {i : Str} {ns : List Str} : OpD S (compareOp .NotIn) (.str i) (.tuple (ns.map .str)) (.bool (!ns.any (· == i))) := fun X ok M H v u tr dx dy => by
  cases dx
  cases dy with
  | tup h2 a2 =>
    rw [dpAll_strs a2] at h2
    refine rop_of op_notIn_seq ⟨_, _, rfl, .inr (SqT.of (mask_some h2).2), rfl, flat_strs' ns, Same.refl _, ?_⟩
    rw [inV_strs]
    exact .bl _
end
/-! ### arguments, calls of built-ins -/
section
variable {S : Sc} {δ : List Slot}
theorem ea_nil {Q : List Ar → List Slot → Prop} (q : Q [] δ) : EaD S [] δ Q := fun X ok M ad σ H sm => ta_of pa_nil ⟨_, _, q, .refl sm, .nil⟩
theorem ea_cons {e : Expr} {es : List Expr} {Q : List Ar → List Slot → Prop} (h : EvD S e δ fun d δ1 => EaD S es δ1 fun as δ2 => Q (.imm d :: as) δ2)
    (hs : ∀ env, starEach (e :: es) env = (false, eval e env) :: starEach es env := by intro _; rfl) : EaD S (e :: es) δ Q := by
  intro X ok M ad σ H sm
  refine ta_of (pa_cons pe_x pa_x (hs _)) (te_mono (h X ok M ad σ H sm) fun v H1 ⟨x, δ1, q1, st1, d1⟩ => ta_mono (q1 X ok M ad σ H1 st1.sm) fun vs H2 ⟨as, δ2, q2, st2, r2⟩ => ?_)
  exact ⟨_, δ2, q2, st1.trans st2, .cons (dp_mono (st1.sm.same st2.keep) _ d1) r2⟩
/-- an owned thing is handed on -/
theorem ea_own {x : Str} {pos : Pos} {i : Nat} {s : Slot} {es : List Expr} {Q : List Ar → List Slot → Prop} (l : Look S.N δ x i s) (w : s.own = true) (hv : Vis S.sc x) (h : EaD S es δ fun as δ2 => Q (.own i :: as) δ2)
    (hd : (x == ("__debug__" : Str)) = false := by decide) (hcd : (x == ("__classdict__" : Str)) = false := by decide) : EaD S (.Name x pos :: es) δ Q := by
  intro X ok M ad σ H sm
  obtain ⟨hM, e1, _⟩ := (sm.ok i _ l.slot).inM w
  refine ta_of (pa_cons (pe_var (i := i) (by rw [ok.N]; exact l.name) (vis_of ok hv) hd hcd) pa_x rfl) ⟨.ref (ad.getD i 0), slot_some e1, ta_mono (h X ok M ad σ H sm) fun vs H2 ⟨as, δ2, q2, st2, r2⟩ => ?_⟩
  refine ⟨_, δ2, q2, st2, .cons ?_ r2⟩
  have q := st2.shp i
  rw [l.slot] at q
  cases e2 : δ2[i]? with
  | none => rw [e2] at q; cases q
  | some t =>
    rw [e2] at q
    have q' : some t.own = some s.own := q
    exact ⟨rfl, t, e2, by rw [Option.some.inj q']; exact w⟩
def RCl (X : Cx) (f : Value) : List V → Hp → VK → Prop := fun vs H Q => ∀ pins s σ us, Inv X pins σ H s → Vals vs us → wpAny (model X.prog X.w) X.A (call f us) (EP X pins σ Q) X.xe s
theorem callR_x {X : Cx} {f : Value} : CallR X f (RCl X f) := fun pins s σ H xs us Q I r h => h pins s σ us I r
theorem rcl_of {X : Cx} {f : Value} {r : List V → Hp → VK → Prop} (h : CallR X f r) {xs : List V} {H : Hp} {Q : VK} (q : r xs H Q) : RCl X f xs H Q := fun pins s σ us I rx => h pins s σ H xs us Q I rx q
def CallD (S : Sc) (f : Value) (ds : List D) (z : D) : Prop :=
  ∀ X, S.Ok X → ∀ M H vs, (∀ a ∈ M, ∃ o, H a = some o) → DaAll S.g.K (mask M H) vs ds → RCl X f vs H fun t H' => Same H H' ∧ Da S.g.K (mask M H') t z
theorem ar_imms {K : PySem.W.Frag} {M : List Addr} {H : Hp} {ad : List Addr} {δ : List Slot} : ∀ {vs : List V} {ds : List D}, Paired (ArOk K M H ad δ) vs (ds.map .imm) → DaAll K (mask M H) vs ds
  | _, [], h => by cases h; exact .nil
  | _, d :: ds, h => by
    cases h with
    | cons h1 h2 => exact .cons h1 (ar_imms h2)
theorem gl_of {X : Cx} (ok : S.Ok X) {x : Str} (h : S.sc.names.lookup x = some .globalImplicit) : Gl X x := by
  show X.env.scope.names.lookup x = _
  rw [ok.sc]; exact h
theorem mg_of' {X : Cx} (ok : S.Ok X) {x : Str} {o : Option Value} (h : S.g.mg x = o) : X.mg x = o := by rw [ok.mg]; exact h
/-- f(e, ..), f a built-in function -/
theorem ev_bf {x : Str} {id : String} {e : Expr} {es : List Expr} {p pos : Pos} {Q : D → List Slot → Prop} (hg : S.sc.names.lookup x = some .globalImplicit) (hm : S.g.mg x = none) (hv : bootBuiltins x = some (.builtin id))
    (h : EaD S (e :: es) δ fun as δ1 => ∃ ds z, as = ds.map .imm ∧ CallD S (.builtin id) ds z ∧ Q z δ1) (hn : x ≠ "__name__" := by decide) (hdb : (x == ("__debug__" : Str)) = false := by decide)
    (he : ∀ env, starEach (e :: es) env = (false, eval e env) :: starEach es env := by intro _; rfl) (hpl : ∀ env, (backTo pos (starEach es env)).any (·.1) = false := by intro _; rfl) : EvD S (.Call (.Name x p) (e :: es) [] pos) δ Q := by
  intro X ok M ad σ H sm
  refine te_of (pe_callB callR_x (gl_of ok hg) (mg_of' ok hm) hv pa_x hn hdb (he _) (hpl _)) (ta_mono (h X ok M ad σ H sm) fun vs H1 ⟨as, δ1, ⟨ds, z, ea, c, q⟩, st, r⟩ => ?_)
  subst ea
  intro pins s σ' us I rx
  exact thn (c X ok M H1 vs st.sm.tr (ar_imms r) pins s σ' us I rx) fun w s' ⟨t, H3, I3, r3, e3, d3⟩ => ⟨t, H3, I3, r3, z, δ1, q, st.trans (.grow st.sm e3), d3⟩
/-- T(e, ..), T a built-in class -/
theorem ev_bt {x : Str} {T : String} {e : Expr} {es : List Expr} {p pos : Pos} {Q : D → List Slot → Prop} (hg : S.sc.names.lookup x = some .globalImplicit) (hm : S.g.mg x = none) (hv : bootBuiltins x = some (.type T))
    (h : EaD S (e :: es) δ fun as δ1 => ∃ ds z, as = ds.map .imm ∧ CallD S (.type T) ds z ∧ Q z δ1) (hn : x ≠ "__name__" := by decide) (hdb : (x == ("__debug__" : Str)) = false := by decide)
    (he : ∀ env, starEach (e :: es) env = (false, eval e env) :: starEach es env := by intro _; rfl) (hpl : ∀ env, (backTo pos (starEach es env)).any (·.1) = false := by intro _; rfl) : EvD S (.Call (.Name x p) (e :: es) [] pos) δ Q := by
  intro X ok M ad σ H sm
  refine te_of (pe_callTy callR_x (gl_of ok hg) (mg_of' ok hm) hv pa_x hn hdb (he _) (hpl _)) (ta_mono (h X ok M ad σ H sm) fun vs H1 ⟨as, δ1, ⟨ds, z, ea, c, q⟩, st, r⟩ => ?_)
  subst ea
  intro pins s σ' us I rx
  exact thn (c X ok M H1 vs st.sm.tr (ar_imms r) pins s σ' us I rx) fun w s' ⟨t, H3, I3, r3, e3, d3⟩ => ⟨t, H3, I3, r3, z, δ1, q, st.trans (.grow st.sm e3), d3⟩
/-- len -/
theorem c_lenT {ds : List D} : CallD S (.builtin "len") [.tuple ds] (.int ds.length) := fun X ok M H vs tr d => by
  cases d with
  | cons d1 d2 =>
    cases d2
    cases d1 with
    | tup h1 a1 => exact rcl_of call_len_seq ⟨_, _, rfl, .inr (SqT.of (mask_some h1).2), Same.refl _, by rw [dpAll_len a1]; exact .int _⟩
theorem c_lenL {ds : List D} : CallD S (.builtin "len") [.list ds] (.int ds.length) := fun X ok M H vs tr d => by
  cases d with
  | cons d1 d2 =>
    cases d2
    cases d1 with
    | lst h1 a1 => exact rcl_of call_len_seq ⟨_, _, rfl, .inl (SqL.of (mask_some h1).2), Same.refl _, by rw [dpAll_len a1]; exact .int _⟩
theorem scr_inj {a b : List Int} (h : a.map (fun n => ((.int n, .none) : D × D)) = b.map (fun n => (.int n, .none))) : a = b := by
  induction a generalizing b with
  | nil =>
    cases b with
    | nil => rfl
    | cons y b => simp at h
  | cons x a ih =>
    cases b with
    | nil => simp at h
    | cons y b =>
      simp only [List.map_cons, List.cons.injEq, Prod.mk.injEq, PyData.int.injEq, and_true] at h
      rw [h.1, ih h.2]
theorem da_scr {K : PySem.W.Frag} {H : Hp} {v : V} {ns : List Int} (h : Da K H v (scrD ns)) : ∃ a, v = .ref a ∧ SqL K H a (ns.map V.int) := by
  generalize e : scrD ns = d at h
  cases h with
  | scr ms hs q =>
    have e' : ns.map (fun n => ((.int n, .none) : D × D)) = ms.map (fun n => (.int n, .none)) := by
      unfold scrD at e
      injection e with e
      rw [e, q]
    rw [scr_inj e']
    exact ⟨_, rfl, hs⟩
  | raw q =>
    subst q
    unfold scrD at e
    cases ns with
    | nil => cases e
    | cons n ns => simp at e
  | _ => unfold scrD at e; cases e
theorem c_lenX {ns : List Int} : CallD S (.builtin "len") [scrD ns] (.int ns.length) := fun X ok M H vs tr d => by
  cases d with
  | cons d1 d2 =>
    cases d2
    obtain ⟨a, rfl, hs⟩ := da_scr d1
    refine rcl_of call_len_seq ⟨a, _, rfl, .inl (by rw [ok.K]; exact sql_mono mask_le hs), Same.refl _, ?_⟩
    rw [List.length_map]
    exact .int _
/-- tuple, list -/
theorem c_tupL {ds : List D} : CallD S (.type "tuple") [.list ds] (.tuple ds) := fun X ok M H vs tr d => by
  cases d with
  | cons d1 d2 =>
    cases d2
    cases d1 with
    | lst h1 a1 => exact rcl_of call_tuple_of ⟨_, _, rfl, .inl ⟨SqL.of (mask_some h1).2, fun p hp => new_tup tr hp a1⟩⟩
theorem c_lstT {ds : List D} : CallD S (.type "list") [.tuple ds] (.list ds) := fun X ok M H vs tr d => by
  cases d with
  | cons d1 d2 =>
    cases d2
    cases d1 with
    | tup h1 a1 => exact rcl_of call_list_of ⟨_, _, rfl, .inr (SqT.of (mask_some h1).2), fun p hp => new_lst tr hp a1⟩
theorem c_int {i : Int} : CallD S (.type "int") [.int i] (.int i) := fun X ok M H vs tr d => by
  cases d with
  | cons d1 d2 =>
    cases d2; cases d1
    exact rcl_of call_int1 (.inl ⟨i, rfl, Same.refl _, .int _⟩)
theorem c_intB {b : Bool} : CallD S (.type "int") [.bool b] (.int (if b then 1 else 0)) := fun X ok M H vs tr d => by
  cases d with
  | cons d1 d2 =>
    cases d2; cases d1
    exact rcl_of call_int1 (.inr ⟨b, rfl, Same.refl _, .int _⟩)
theorem c_max2 {i j : Int} : CallD S (.builtin "max") [.int i, .int j] (.int (if j > i then j else i)) := fun X ok M H vs tr d => by
  cases d with
  | cons d1 d2 =>
    cases d1
    cases d2 with
    | cons d2 d3 =>
      cases d2; cases d3
      exact rcl_of (call_max2 ok.calm) ⟨i, j, rfl, Same.refl _, .int _⟩
theorem c_min2 {i j : Int} : CallD S (.builtin "min") [.int i, .int j] (.int (if j < i then j else i)) := fun X ok M H vs tr d => by
  cases d with
  | cons d1 d2 =>
    cases d1
    cases d2 with
    | cons d2 d3 =>
      cases d2; cases d3
      exact rcl_of (call_min2 ok.calm) ⟨i, j, rfl, Same.refl _, .int _⟩
/-- max of a list of ints, by what it is -/
theorem c_max {ns : List Int} {m : Int} (hm : m ∈ ns) (hb : ∀ y ∈ ns, y ≤ m) : CallD S (.builtin "max") [lI ns] (.int m) := fun X ok M H vs tr d => by
  cases d with
  | cons d1 d2 =>
    cases d2
    cases d1 with
    | lst h1 a1 =>
      rw [dpAll_ints a1] at h1
      have pos : 0 < ns.length := List.length_pos_of_mem hm
      refine rcl_of (cr_max ok.calm) ⟨_, ns, rfl, SqL.of (mask_some h1).2, pos, fun z hz hle => ?_⟩
      have e : z = m := by
        have h1 := hle m hm
        have h2 := hb z hz
        omega
      subst e
      exact ⟨Same.refl _, .int _⟩
/-- sorted of a list of ints -/
theorem c_sorted {ns ms : List Int} (h : ns.length < 64) (hs : ∀ zs : List Int, zs.Perm ns → zs.Pairwise (· ≤ ·) → zs = ms) : CallD S (.builtin "sorted") [lI ns] (lI ms) := fun X ok M H vs tr d => by
  cases d with
  | cons d1 d2 =>
    cases d2
    cases d1 with
    | lst h1 a1 =>
      rw [dpAll_ints a1] at h1
      refine rcl_of cr_sorted ⟨_, ns, rfl, SqL.of (mask_some h1).2, h, fun zs p pm pw hp => ?_⟩
      have e := hs zs pm pw
      subst e
      exact new_lst tr hp (ints_dpAll zs)
end
end Fb
end
section
namespace Fb
open PySem PySem.Spec PyProof.Rows L2
/-! ### subscripts -/
def RIx (X : Cx) (value slice : Expr) : R2 := fun x y H Q => ∀ pins s σ v u, Inv X pins σ H s → RelV x v → RelV y u → subscripted slice false v u = operate [v, u] (getItem v u) → wpAny (model X.prog X.w) X.A (subscriptTail value slice v u) (EP X pins σ Q) X.xe s
section
variable {S : Sc} {δ : List Slot}
/-- x[y] is z -/
def IxD (S : Sc) (x y z : D) : Prop :=
  ∀ X, S.Ok X → ∀ M H v u, (∀ a ∈ M, ∃ o, H a = some o) → Da S.g.K (mask M H) v x → Da S.g.K (mask M H) u y →
    ∃ r : R2, IxR X r ∧ r v u H fun t H' => Same H H' ∧ Da S.g.K (mask M H') t z
theorem ev_ix {a b : Expr} {pos : Pos} {Q : D → List Slot → Prop} (h : EvD S a δ fun x δ1 => EvD S b δ1 fun y δ2 => ∃ z, IxD S x y z ∧ Q z δ2) (hs : PlainIx b) : EvD S (.Subscript a b pos) δ Q := by
  intro X ok M ad σ H sm
  refine te_of (t := fun σ H Q => tOp (fun v u H Q => ∃ r : R2, IxR X r ∧ r v u H Q) (TEx X a) (TEx X b) σ H Q) (pe_ix ?_ pe_x pe_x hs) ?_
  · intro value slice pins s σ H x y v u Q I rx ry ⟨r, hr, q⟩ e
    exact hr value slice pins s σ H x y v u Q I rx ry q e
  · refine te_mono (h X ok M ad σ H sm) fun v H1 ⟨x, δ1, q1, st1, d1⟩ => te_mono (q1 X ok M ad σ H1 st1.sm) fun u H2 ⟨y, δ2, ⟨z, o, q2⟩, st2, d2⟩ => ?_
    obtain ⟨r, hr, q⟩ := o X ok M H2 v u st2.sm.tr (dp_mono (st1.sm.same st2.keep) _ d1) d2
    refine ⟨fun v u H Q => ∃ Q0, r v u H Q0 ∧ ∀ t H', Q0 t H' → Q t H', ?_, _, q, fun t H' ⟨e, d⟩ => ⟨z, δ2, q2, (st1.trans st2).trans (.grow st2.sm e), d⟩⟩
    intro value slice pins s σ H x y v u Q I rx ry ⟨Q0, q0, k⟩ e
    exact thn (hr value slice pins s σ H x y v u Q0 I rx ry q0 e) fun _ _ ⟨t, H', I', r', q'⟩ => ⟨t, H', I', r', k t H' q'⟩
theorem atI_da {K : PySem.W.Frag} {H : Hp} {vs : List V} {ds : List D} {i : Int} {z : D} (h : DaAll K H vs ds) (e : atI ds i = some z) : ∃ t, atI vs i = some t ∧ Da K H t z := by
  unfold atI at e ⊢
  rw [dpAll_len h]
  cases q : ixN ds.length i with
  | none => rw [q] at e; cases e
  | some j =>
    rw [q] at e
    exact dpAll_get h (show ds[j]? = some z from e)
theorem ix_T {ds : List D} {i : Int} {z : D} (e : atI ds i = some z) : IxD S (.tuple ds) (.int i) z := fun X ok M H v u tr dx dy => by
  cases dx with
  | tup h a =>
    cases dy
    obtain ⟨t, e1, d⟩ := atI_da a e
    exact ⟨_, ix_tup, _, _, i, t, rfl, rfl, SqT.of (mask_some h).2, e1, Same.refl _, d⟩
theorem ix_L {ds : List D} {i : Int} {z : D} (e : atI ds i = some z) : IxD S (.list ds) (.int i) z := fun X ok M H v u tr dx dy => by
  cases dx with
  | lst h a =>
    cases dy
    obtain ⟨t, e1, d⟩ := atI_da a e
    exact ⟨_, ix_list, _, _, i, t, rfl, rfl, SqL.of (mask_some h).2, e1, Same.refl _, d⟩
theorem ix_S {x : Str} {i : Int} {c : Nat} (h : x.length ≤ sizeLine) (e : atI x.cps.toList i = some c) : IxD S (.str x) (.int i) (.str ⟨#[c]⟩) := fun X ok M H v u tr dx dy => by
  cases dx
  cases dy
  exact ⟨_, ix_str, x, i, c, rfl, rfl, h, e, Same.refl _, .str _⟩
theorem ix_X {ns : List Int} {i n : Int} (e : atI ns i = some n) : IxD S (scrD ns) (.int i) (.int n) := fun X ok M H v u tr dx dy => by
  obtain ⟨a, rfl, hs⟩ := da_scr dx
  cases dy
  refine ⟨_, ix_list, a, ns.map V.int, i, .int n, rfl, rfl, by rw [ok.K]; exact sql_mono mask_le hs, ?_, Same.refl _, .int _⟩
  unfold atI at e ⊢
  rw [List.length_map]
  cases q : ixN ns.length i with
  | none => rw [q] at e; cases e
  | some j =>
    rw [q] at e
    have e' : ns[j]? = some n := e
    show (ns.map V.int)[j]? = some (.int n)
    rw [List.getElem?_map, e']; rfl
/-! ### slices -/
/-- an optional part of a slice -/
def EoD (S : Sc) (e : Option Expr) (δ : List Slot) (Q : Option Int → List Slot → Prop) : Prop :=
  ∀ X, S.Ok X → ∃ t : TO, PO X e t ∧ ∀ M ad σ H, Sm S.g.K M H ad δ σ → ∀ Q' : Option Int → Hp → Prop, (∀ o H' δ', Q o δ' → Stp S.g.K M ad σ δ H δ' H' → Q' o H') → t σ H Q'
theorem eo_none {Q : Option Int → List Slot → Prop} (q : Q none δ) : EoD S none δ Q := fun X ok => ⟨_, po_none, fun M ad σ H sm Q' k => k _ _ _ q (.refl sm)⟩
theorem eo_some {e : Expr} {Q : Option Int → List Slot → Prop} (h : EvD S e δ fun d δ1 => ∃ i, d = .int i ∧ Q (some i) δ1) : EoD S (some e) δ Q := fun X ok => ⟨_, po_some pe_x, fun M ad σ H sm Q' k => by
  refine te_mono (h X ok M ad σ H sm) fun v H1 ⟨d, δ1, ⟨i, e, q⟩, st, d1⟩ => ?_
  subst e
  cases d1
  exact ⟨i, rfl, k _ _ _ q st⟩⟩
def cutD {α : Type} (xs : List α) (lo hi : Option Int) : List α := (xs.drop (HT.sIx xs.length 0 lo)).take (HT.sIx xs.length xs.length hi - HT.sIx xs.length 0 lo)
theorem cut_da {K : PySem.W.Frag} {H : Hp} {vs : List V} {ds : List D} (h : DaAll K H vs ds) (lo hi : Option Int) : DaAll K H (cutV vs lo hi) (cutD ds lo hi) := by
  unfold cutV cutD
  rw [dpAll_len h]
  exact dpAll_take _ (dpAll_drop _ h)
def SlD (S : Sc) (x : D) (lo hi : Option Int) (z : D) : Prop :=
  ∀ X, S.Ok X → ∀ M H v, (∀ a ∈ M, ∃ o, H a = some o) → Da S.g.K (mask M H) v x → ∃ r, SlR X r ∧ r v lo hi H fun t H' => Same H H' ∧ Da S.g.K (mask M H') t z
theorem sl_T {ds : List D} {lo hi : Option Int} {zs : List D} (e : cutD ds lo hi = zs) : SlD S (.tuple ds) lo hi (.tuple zs) := fun X ok M H v tr dx => by
  subst e
  cases dx with
  | tup h a =>
    refine ⟨_, sl_tupA, _, _, rfl, SqT.of (mask_some h).2, fun w => ?_, fun _ p hp => new_tup tr hp (cut_da a lo hi)⟩
    have e : cutD ds lo hi = ds := by
      have l := dpAll_len a
      rw [l] at w
      unfold cutD
      rw [w.1, w.2, List.drop_zero, Nat.sub_zero, List.take_length]
    rw [e]
    exact ⟨Same.refl _, .tup h a⟩
theorem sl_L {ds : List D} {lo hi : Option Int} {zs : List D} (e : cutD ds lo hi = zs) : SlD S (.list ds) lo hi (.list zs) := fun X ok M H v tr dx => by
  subst e
  cases dx with
  | lst h a => exact ⟨_, sl_list, _, _, rfl, SqL.of (mask_some h).2, fun p hp => new_lst tr hp (cut_da a lo hi)⟩
theorem ev_sl {a : Expr} {lo hi : Option Expr} {p2 pos : Pos} {Q : D → List Slot → Prop} (h : EvD S a δ fun x δ1 => EoD S lo δ1 fun i δ2 => EoD S hi δ2 fun j δ3 => ∃ z, SlD S x i j z ∧ Q z δ3) : EvD S (.Subscript a (.Slice lo hi none p2) pos) δ Q := by
  intro X ok M ad σ H sm
  -- the parts' readings hang on the slots: taken at the strongest
  let tl (e : Option Expr) : TO := fun σ H Q => ∃ t : TO, PO X e t ∧ t σ H Q
  have pl : ∀ e, PO X e (tl e) := fun e => ⟨fun pins s σ H Q I ⟨t, ht, q⟩ => ht.run pins s σ H Q I q⟩
  refine te_of (t := tSl (fun v lo hi H Q => ∃ r, SlR X r ∧ r v lo hi H Q) (TEx X a) (tl lo) (tl hi)) (pe_slice ?_ pe_x (pl lo) (pl hi)) ?_
  · intro pins s σ H x v vl vu lo hi sl Q I rx hs h1 h2 ⟨r, hr, q⟩
    exact hr pins s σ H x v vl vu lo hi sl Q I rx hs h1 h2 q
  · refine te_mono (h X ok M ad σ H sm) fun v H1 ⟨x, δ1, q1, st1, d1⟩ => ?_
    obtain ⟨t1, p1, k1⟩ := q1 X ok
    refine ⟨t1, p1, k1 M ad σ H1 st1.sm _ fun i H2 δ2 q2 st2 => ?_⟩
    obtain ⟨t2, p2', k2⟩ := q2 X ok
    refine ⟨t2, p2', k2 M ad σ H2 st2.sm _ fun j H3 δ3 ⟨z, o, q3⟩ st3 => ?_⟩
    have st := (st1.trans st2).trans st3
    obtain ⟨r, hr, q⟩ := o X ok M H3 v st.sm.tr (dp_mono (st1.sm.same (st2.trans st3).keep) _ d1)
    refine ⟨fun v lo hi H Q => ∃ Q0, r v lo hi H Q0 ∧ ∀ t H', Q0 t H' → Q t H', ?_, _, q, fun t H' ⟨e, d⟩ => ⟨z, δ3, q3, st.trans (.grow st.sm e), d⟩⟩
    intro pins s σ H x v vl vu lo hi sl Q I rx hs h1 h2 ⟨Q0, q0, k⟩
    obtain ⟨T, f, hT, ht, hw⟩ := hr pins s σ H x v vl vu lo hi sl Q0 I rx hs h1 h2 q0
    exact ⟨T, f, hT, ht, thn hw fun _ _ ⟨t, H', I', r', q'⟩ => ⟨t, H', I', r', k t H' q'⟩⟩
/-! ### displays -/
theorem ev_tup {es : List Expr} {k : Nat} {pos : Pos} {Q : D → List Slot → Prop} (h : EaD S es δ fun as δ1 => ∃ ds, as = ds.map .imm ∧ ds.length ≤ 1000 ∧ Q (.tuple ds) δ1) : EvD S (.Tuple es k pos) δ Q := by
  intro X ok M ad σ H sm
  refine te_of (pe_tup pa_x) (ta_mono (h X ok M ad σ H sm) fun vs H1 ⟨as, δ1, ⟨ds, ea, l, q⟩, st, r⟩ => ?_)
  subst ea
  have a := ar_imms r
  refine ⟨by rw [dpAll_len a, sizeLine_eq]; omega, fun p hp => ?_⟩
  obtain ⟨e, d⟩ := new_tup st.sm.tr hp a
  exact ⟨_, δ1, q, st.trans (.grow st.sm e), d⟩
theorem ev_lst {es : List Expr} {pos : Pos} {Q : D → List Slot → Prop} (h : EaD S es δ fun as δ1 => ∃ ds, as = ds.map .imm ∧ ds.length ≤ 1000 ∧ Q (.list ds) δ1) : EvD S (.List es pos) δ Q := by
  intro X ok M ad σ H sm
  refine te_of (pe_lst pa_x) (ta_mono (h X ok M ad σ H sm) fun vs H1 ⟨as, δ1, ⟨ds, ea, l, q⟩, st, r⟩ => ?_)
  subst ea
  have a := ar_imms r
  refine ⟨by rw [dpAll_len a, sizeLine_eq]; omega, fun p hp => ?_⟩
  obtain ⟨e, d⟩ := new_lst st.sm.tr hp a
  exact ⟨_, δ1, q, st.trans (.grow st.sm e), d⟩
/-! ### tests -/
theorem et_val {e : Expr} {Q : Bool → List Slot → Prop} (h : EvD S e δ fun d δ1 => ∃ b, d = .bool b ∧ Q b δ1) (he : ∀ env whole, isTrue e env whole = (do let v ← whole; standAt e.pos; holding [v] (truthy v)) := by intro _ _; rfl) : EtD S e δ Q := by
  intro X ok M ad σ H sm
  refine tt_of (pt_val pe_x (he _)) (te_mono (h X ok M ad σ H sm) fun v H1 ⟨d, δ1, ⟨b, e, q⟩, st, d1⟩ => ?_)
  subst e
  cases d1
  exact ⟨b, rfl, δ1, q, st⟩
theorem et_w {e : Expr} {Q : Bool → List Slot → Prop} (h : EwD S e δ Q) : EtD S e δ Q := fun X ok M ad σ H sm => tt_of (PW.pt pw_x) (h X ok M ad σ H sm)
theorem et_not {e : Expr} {pos : Pos} {Q : Bool → List Slot → Prop} (h : EtD S e δ fun b δ1 => Q (!b) δ1) : EtD S (.UnaryOp .Not e pos) δ Q := fun X ok M ad σ H sm =>
  tt_of (pt_not pt_x) (tt_mono (h X ok M ad σ H sm) fun b H1 ⟨δ1, q, st⟩ => ⟨δ1, q, st⟩)
theorem ew_and1 {e : Expr} {pos : Pos} {Q : Bool → List Slot → Prop} (h : EtD S e δ Q) : EwD S (.BoolOp .And [e] pos) δ Q := fun X ok M ad σ H sm => tw_of (pw_and1 pt_x) (h X ok M ad σ H sm)
theorem ew_or1 {e : Expr} {pos : Pos} {Q : Bool → List Slot → Prop} (h : EtD S e δ Q) : EwD S (.BoolOp .Or [e] pos) δ Q := fun X ok M ad σ H sm => tw_of (pw_or1 pt_x) (h X ok M ad σ H sm)
theorem ew_and {a b : Expr} {rest : List Expr} {pos : Pos} {Q : Bool → List Slot → Prop} (h : EtD S a δ fun c δ1 => (c = true → EwD S (.BoolOp .And (b :: rest) pos) δ1 Q) ∧ (c = false → Q false δ1)) : EwD S (.BoolOp .And (a :: b :: rest) pos) δ Q := by
  intro X ok M ad σ H sm
  refine tw_of (pw_and pt_x pw_x) (tt_mono (h X ok M ad σ H sm) fun c H1 ⟨δ1, ⟨q1, q2⟩, st⟩ => ?_)
  cases c with
  | true =>
    rw [if_pos rfl]
    exact tw_mono (q1 rfl X ok M ad σ H1 st.sm) fun b H2 ⟨δ2, q, st2⟩ => ⟨δ2, q, st.trans st2⟩
  | false =>
    rw [if_neg Bool.false_ne_true]
    exact ⟨δ1, q2 rfl, st⟩
theorem ew_or {a b : Expr} {rest : List Expr} {pos : Pos} {Q : Bool → List Slot → Prop} (h : EtD S a δ fun c δ1 => (c = false → EwD S (.BoolOp .Or (b :: rest) pos) δ1 Q) ∧ (c = true → Q true δ1)) : EwD S (.BoolOp .Or (a :: b :: rest) pos) δ Q := by
  intro X ok M ad σ H sm
  refine tw_of (pw_or pt_x pw_x) (tt_mono (h X ok M ad σ H sm) fun c H1 ⟨δ1, ⟨q1, q2⟩, st⟩ => ?_)
  cases c with
  | false =>
    rw [if_neg Bool.false_ne_true]
    exact tw_mono (q1 rfl X ok M ad σ H1 st.sm) fun b H2 ⟨δ2, q, st2⟩ => ⟨δ2, q, st.trans st2⟩
  | true =>
    rw [if_pos rfl]
    exact ⟨δ1, q2 rfl, st⟩
/-- .. as values -/
theorem ev_and1 {e : Expr} {op : BoolOp} {pos : Pos} {Q : D → List Slot → Prop} (h : EvD S e δ Q) : EvD S (.BoolOp op [e] pos) δ Q := fun X ok M ad σ H sm => te_of (pe_one pe_x) (h X ok M ad σ H sm)
theorem ev_and {a b : Expr} {rest : List Expr} {pos : Pos} {Q : D → List Slot → Prop} (h : EvD S a δ fun d δ1 => ∃ c, d = .bool c ∧ (c = true → EvD S (.BoolOp .And (b :: rest) pos) δ1 Q) ∧ (c = false → Q (.bool false) δ1)) : EvD S (.BoolOp .And (a :: b :: rest) pos) δ Q := by
  intro X ok M ad σ H sm
  refine te_of (pe_and pe_x pe_x) (te_mono (h X ok M ad σ H sm) fun v H1 ⟨d, δ1, ⟨c, e, q1, q2⟩, st, d1⟩ => ?_)
  subst e
  cases d1
  refine ⟨c, rfl, ?_⟩
  cases c with
  | true =>
    rw [if_pos rfl]
    exact te_mono (q1 rfl X ok M ad σ H1 st.sm) fun b H2 ⟨d, δ2, q, st2, r⟩ => ⟨d, δ2, q, st.trans st2, r⟩
  | false =>
    rw [if_neg Bool.false_ne_true]
    exact ⟨_, δ1, q2 rfl, st, .bl _⟩
theorem ev_not {e : Expr} {pos : Pos} {Q : D → List Slot → Prop} (h : EvD S e δ fun d δ1 => ∃ c, d = .bool c ∧ Q (.bool (!c)) δ1) : EvD S (.UnaryOp .Not e pos) δ Q := by
  intro X ok M ad σ H sm
  refine te_of (pe_not pe_x) (te_mono (h X ok M ad σ H sm) fun v H1 ⟨d, δ1, ⟨c, e, q⟩, st, d1⟩ => ?_)
  subst e
  cases d1
  exact ⟨c, rfl, _, δ1, q, st, .bl _⟩
theorem ev_neg {e : Expr} {pos : Pos} {Q : D → List Slot → Prop} (h : EvD S e δ fun d δ1 => ∃ i, d = .int i ∧ Q (.int (-i)) δ1) : EvD S (.UnaryOp .USub e pos) δ Q := by
  intro X ok M ad σ H sm
  refine te_of (pe_un un_neg pe_x) (te_mono (h X ok M ad σ H sm) fun v H1 ⟨d, δ1, ⟨i, e, q⟩, st, d1⟩ => ?_)
  subst e
  cases d1
  exact ⟨i, rfl, _, δ1, q, st, .int _⟩
/-- a chain as a value -/
theorem ev_chain {a b c : Expr} {op op' : CmpOp} {pos : Pos} {Q : D → List Slot → Prop}
    (h : EvD S a δ fun x δ1 => EvD S b δ1 fun y δ2 => ∃ k, OpD S (compareOp op) x y (.bool k) ∧ (k = false → Q (.bool false) δ2) ∧ (k = true → EvD S c δ2 fun z δ3 => ∃ r, OpD S (compareOp op') y z r ∧ Q r δ3))
    (hm : lastMarks [op, op'] [b, c] = false) : EvD S (.Compare a [op, op'] [b, c] pos) δ Q := by
  intro X ok M ad σ H sm
  refine te_of (pe_chain opR_x opR_x pe_x pe_x pe_x hm) (te_mono (h X ok M ad σ H sm) fun v H1 ⟨x, δ1, q1, st1, d1⟩ => te_mono (q1 X ok M ad σ H1 st1.sm) fun u H2 ⟨y, δ2, ⟨k, o, q2, q2'⟩, st2, d2⟩ => ?_)
  intro pins s σ' v' u' I rx ry
  refine thn (o X ok M H2 v u st2.sm.tr (dp_mono (st1.sm.same st2.keep) _ d1) d2 pins s σ' v' u' I rx ry) fun r s' ⟨t, H3, I3, r3, e3, d3⟩ => ?_
  cases d3
  have st3 := (st1.trans st2).trans (.grow st2.sm e3)
  refine ⟨_, H3, I3, r3, k, rfl, ?_⟩
  cases k with
  | false => exact ⟨_, δ2, q2 rfl, st3, .bl _⟩
  | true =>
    refine te_mono (q2' rfl X ok M ad σ H3 st3.sm) fun w H4 ⟨z, δ4, ⟨k', o', q4⟩, st4, d4⟩ => ?_
    intro pins s σ' v' u' I rx ry
    refine thn (o' X ok M H4 u w st4.sm.tr (dp_mono (st3.sm.same st4.keep) _ (dp_mono (same_mask e3) _ d2)) d4 pins s σ' v' u' I rx ry) fun r s' ⟨t, H5, I5, r5, e5, d5⟩ => ?_
    exact ⟨_, H5, I5, r5, _, δ4, q4, (st3.trans st4).trans (.grow st4.sm e5), d5⟩
/-! ### isinstance -/
/-- the type of data, for isinstance -/
def tyD : D → String
  | .none => "NoneType"
  | .bool _ => "bool"
  | .int _ => "int"
  | .str _ => "str"
  | .list _ => "list"
  | .tuple _ => "tuple"
  | .dict _ => "list"
theorem tyD_of {K : PySem.W.Frag} {H : Hp} {v : V} {d : D} (h : Da K H v d) (hd : ∀ kvs, d ≠ .dict kvs) : TyOf K H v (.type (tyD d)) := by
  cases h with
  | non => exact .non
  | bl b => exact .bl b
  | int i => exact .int i
  | str x => exact .str x
  | lst h _ => exact .lst h
  | tup h _ => exact .tup h
  | scr ns _ q => exact absurd rfl (hd _)
  | raw q => exact absurd rfl (hd _)
/-- isinstance(e, T) -/
theorem ev_isi {x T : Str} {n : String} {e : Expr} {p p2 pos : Pos} {Q : D → List Slot → Prop} (hg : S.sc.names.lookup x = some .globalImplicit) (hm : S.g.mg x = none) (hx : bootBuiltins x = some (.builtin "isinstance")) (hg2 : S.sc.names.lookup T = some .globalImplicit) (hm2 : S.g.mg T = none) (hT : bootBuiltins T = some (.type n))
    (h : EvD S e δ fun d δ1 => (∀ kvs, d ≠ .dict kvs) ∧ ∃ b, kitB (tyD d) n = some b ∧ Q (.bool b) δ1) (hn : x ≠ "__name__" := by decide) (hdb : (x == ("__debug__" : Str)) = false := by decide) (hn2 : T ≠ "__name__" := by decide) (hdb2 : (T == ("__debug__" : Str)) = false := by decide)
    (he : ∀ env, starEach [e, .Name T p2] env = (false, eval e env) :: starEach [.Name T p2] env := by intro _; rfl) : EvD S (.Call (.Name x p) [e, .Name T p2] [] pos) δ Q := by
  intro X ok M ad σ H sm
  refine te_of (pe_callB call_isi (gl_of ok hg) (mg_of' ok hm) hx (pa_cons pe_x (pa_cons (pe_bltn (v := .ty n) (gl_of ok hg2) (mg_of' ok hm2) hT rfl hn2 hdb2) pa_nil) (he _)) hn hdb (he _)) ?_
  refine te_mono (h X ok M ad σ H sm) fun v H1 ⟨d, δ1, ⟨nd, b, kb, q⟩, st, d1⟩ => ?_
  exact ⟨v, .ty n, .type (tyD d), .type n, b, rfl, .ty n, .base (by rw [ok.K]; exact tyD_of (dp_up d1) nd), kit_ty kb, _, δ1, q, st, .bl b⟩
end
end Fb
end
section
namespace Fb
open PySem PySem.Spec PyProof.Rows L2
/-! ### statements on data -/
/-- what is fixed through a body: the arguments' slots, their addresses, what else is masked, the heap at the entry -/
structure Bd where
  M0 : List Addr
  H0 : Hp
  ad0 : List Addr
  δ0 : List Slot
structure Pt (K : PySem.W.Frag) (B : Bd) (δ : List Slot) (σ : L2.St) (H : Hp) (M : List Addr) (ad : List Addr) : Prop where
  sm : Sm K M H ad δ σ
  sub : ∀ a ∈ B.M0, a ∈ M
  fr : Keep B.ad0 B.δ0 B.H0 H
  ps : ∀ (i : Nat) s, B.δ0[i]? = some s → s.own = true → ad.getD i 0 = B.ad0.getD i 0 ∧ ∃ s', δ[i]? = some s' ∧ s'.own = true
  nw : ∀ a, Ow ad δ a → B.H0 a = none ∨ Ow B.ad0 B.δ0 a
  fm : ∀ a ∈ M, a ∈ B.M0 ∨ B.H0 a = none
def PtE (K : PySem.W.Frag) (B : Bd) (δ : List Slot) (σ : L2.St) (H : Hp) : Prop := ∃ M ad, Pt K B δ σ H M ad
/-- what a body hands back -/
def Rt (K : PySem.W.Frag) (B : Bd) (R : D → List Slot → Prop) (v : V) (H : Hp) : Prop :=
  ∃ d δ, R d δ ∧ Da K (mask B.M0 H) v d ∧ Keep B.ad0 B.δ0 B.H0 H ∧ ∀ (i : Nat) s, B.δ0[i]? = some s → s.own = true → ∃ s', δ[i]? = some s' ∧ s'.own = true ∧ SlotOk K B.M0 H (some (.ref (B.ad0.getD i 0))) (B.ad0.getD i 0) s'
structure Cn where
  nx : List Slot → Prop
  rt : D → List Slot → Prop
  bk : List Slot → Prop := fun _ => False
  ct : List Slot → Prop := fun _ => False
def endsOf (K : PySem.W.Frag) (B : Bd) (C : Cn) : Ends where
  nx := fun σ H => ∃ δ, C.nx δ ∧ PtE K B δ σ H
  rt := Rt K B C.rt
  bk := fun σ H => ∃ δ, C.bk δ ∧ PtE K B δ σ H
  ct := fun σ H => ∃ δ, C.ct δ ∧ PtE K B δ σ H
section
variable (S : Sc)
/-- B hangs on nothing that the body may know but that the masked stay masked: params' owned are masked -/
structure BdOk (B : Bd) : Prop where
  own : ∀ (i : Nat) s, B.δ0[i]? = some s → s.own = true → B.ad0.getD i 0 ∈ B.M0
  tr : ∀ a ∈ B.M0, ∃ o, B.H0 a = some o
def SD (st : Stmt) (δ : List Slot) (C : Cn) : Prop :=
  ∀ X, S.Ok X → ∀ B, BdOk B → ∀ σ H, PtE S.g.K B δ σ H → TSx X st (endsOf S.g.K B C) σ H
def SDs (sts : List Stmt) (δ : List Slot) (C : Cn) : Prop :=
  ∀ X, S.Ok X → ∀ B, BdOk B → ∀ σ H, PtE S.g.K B δ σ H → TSsx X sts (endsOf S.g.K B C) σ H
end
theorem SlotOk.sub {K : PySem.W.Frag} {M M0 : List Addr} {H : Hp} {o : Option V} {a : Addr} {s : Slot} (h : SlotOk K M H o a s) (sub : ∀ b ∈ M0, b ∈ M) (ha : s.own = true → a ∈ M0) : SlotOk K M0 H o a s := by
  have e : Same (mask M H) (mask M0 H) := mask_sub sub
  cases s with
  | un => trivial
  | imm d => obtain ⟨v, h1, h2⟩ := h; exact ⟨v, h1, dp_mono e _ h2⟩
  | lst ds => obtain ⟨h1, h2, vs, h3, h4⟩ := h; exact ⟨h1, ha rfl, vs, h3, dpAll_mono e _ h4⟩
  | dct kvs => obtain ⟨h1, h2, vs, h3, h4⟩ := h; exact ⟨h1, ha rfl, vs, h3, Paired.mapP h4 fun _ _ q => ⟨q.1, dp_mono e _ q.2⟩⟩
  | pat kvs => obtain ⟨h1, h2, h3, h4, xs, h5, h6⟩ := h; exact ⟨h1, ha rfl, h3, h4, xs, h5, Paired.mapP h6 fun _ _ ⟨q1, q2, v, q3, q4⟩ => ⟨q1, e _ _ q2, v, q3, dp_mono e _ q4⟩⟩
section
variable {K : PySem.W.Frag} {B : Bd} {δ δ1 : List Slot} {σ : L2.St} {H H1 : Hp} {M ad : List Addr}
theorem Pt.step (p : Pt K B δ σ H M ad) (st : Stp K M ad σ δ H δ1 H1) : Pt K B δ1 σ H1 M ad := by
  refine ⟨st.sm, p.sub, fun a o q n => st.keep a o (p.fr a o q n) fun w => ?_, fun i s q w => ?_, fun a o => p.nw a (st.shp.ow o), p.fm⟩
  · rcases p.nw a w with z | z
    · rw [q] at z; cases z
    · exact n z
  · obtain ⟨e, s', e2, w2⟩ := p.ps i s q w
    refine ⟨e, ?_⟩
    have h := st.shp i
    rw [e2] at h
    cases e3 : δ1[i]? with
    | none => rw [e3] at h; cases h
    | some t =>
      rw [e3] at h
      have h' : some t.own = some s'.own := h
      exact ⟨t, rfl, by rw [Option.some.inj h']; exact w2⟩
/-- a slot that is not owned gets data -/
theorem Sm.set {i : Nat} {s : Slot} {v : V} {d : D} (h : Sm K M H ad δ σ) (hd : Da K (mask M H) v d) : Sm K M H ad (δ.set i (.imm d)) (σ.set i (some v)) := by
  have key : ∀ (j : Nat) t, (δ.set i (.imm d))[j]? = some t → t.own = true → δ[j]? = some t := fun j t q w => by
    by_cases e : i = j
    · subst e
      by_cases hl : i < δ.length
      · rw [List.getElem?_set_self hl] at q
        cases q
        cases w
      · rw [List.getElem?_eq_none (by simpa using hl)] at q; cases q
    · rw [List.getElem?_set_ne e] at q; exact q
  refine ⟨by rw [List.length_set, List.length_set]; exact h.len, fun j t q => ?_, fun j k s t a b c e f => h.inj j k s t (key j s a c) (key k t b e) c e f, h.tr⟩
  by_cases e : i = j
  · subst e
    by_cases hl : i < δ.length
    · rw [List.getElem?_set_self hl] at q
      cases q
      refine ⟨v, ?_, hd⟩
      rw [List.getD_eq_getElem?_getD, List.getElem?_set_self (by rw [h.len]; exact hl)]
      rfl
    · rw [List.getElem?_eq_none (by simpa using hl)] at q; cases q
  · rw [List.getElem?_set_ne e] at q
    have z := h.ok j t q
    rw [List.getD_eq_getElem?_getD] at z ⊢
    rw [List.getElem?_set_ne e]
    exact z
theorem Ow.set {i : Nat} {d : D} {a : Addr} (o : Ow ad (δ.set i (.imm d)) a) : Ow ad δ a := by
  obtain ⟨j, t, q, w, e⟩ := o
  by_cases z : i = j
  · subst z
    by_cases hl : i < δ.length
    · rw [List.getElem?_set_self hl] at q
      cases q
      cases w
    · rw [List.getElem?_eq_none (by simpa using hl)] at q; cases q
  · rw [List.getElem?_set_ne z] at q
    exact ⟨j, t, q, w, e⟩
theorem Pt.set {i : Nat} {s : Slot} {v : V} {d : D} (p : Pt K B δ σ H M ad) (hs : δ[i]? = some s) (w : s.own = false) (hd : Da K (mask M H) v d) : Pt K B (δ.set i (.imm d)) (σ.set i (some v)) H M ad := by
  refine ⟨p.sm.set (s := s) hd, p.sub, p.fr, fun j t q z => ?_, fun a o => p.nw a o.set, p.fm⟩
  obtain ⟨e, t', e2, w2⟩ := p.ps j t q z
  refine ⟨e, t', ?_, w2⟩
  rw [List.getElem?_set_ne]
  · exact e2
  · intro c
    subst c
    rw [hs] at e2
    cases e2
    rw [w] at w2; cases w2
end
section
variable {K : PySem.W.Frag} {B : Bd} {δ : List Slot} {σ : L2.St} {H : Hp} {M ad : List Addr}
/-- the same point, from here on -/
def Bd.here (M : List Addr) (H : Hp) (ad : List Addr) (δ : List Slot) : Bd := ⟨M, H, ad, δ⟩
theorem Pt.here (p : Pt K B δ σ H M ad) : Pt K (Bd.here M H ad δ) δ σ H M ad :=
  ⟨p.sm, fun _ z => z, fun _ _ q _ => q, fun i s q w => ⟨rfl, s, q, w⟩, fun _ o => .inr o, fun _ z => .inl z⟩
theorem Pt.hereOk (p : Pt K B δ σ H M ad) : BdOk (Bd.here M H ad δ) := ⟨fun i s q w => p.sm.owM ⟨i, s, q, w, rfl⟩, p.sm.tr⟩
theorem Pt.comp {δ1 : List Slot} {σ1 : L2.St} {H1 : Hp} {M1 ad1 : List Addr} (bo : BdOk B) (p : Pt K B δ σ H M ad) (q : Pt K (Bd.here M H ad δ) δ1 σ1 H1 M1 ad1) : Pt K B δ1 σ1 H1 M1 ad1 := by
  refine ⟨q.sm, fun a z => q.sub a (p.sub a z), fun a o e n => q.fr a o (p.fr a o e n) fun w => ?_, fun i s e w => ?_, fun a o => ?_, fun a z => ?_⟩
  · rcases p.nw a w with z | z
    · rw [e] at z; cases z
    · exact n z
  · obtain ⟨e1, s', e2, w2⟩ := p.ps i s e w
    obtain ⟨e3, s'', e4, w3⟩ := q.ps i s' e2 w2
    exact ⟨e3.trans e1, s'', e4, w3⟩
  · rcases q.nw a o with z | z
    · cases e : B.H0 a with
      | none => exact .inl rfl
      | some u =>
        by_cases w : Ow B.ad0 B.δ0 a
        · exact .inr w
        · have := p.fr a u e w
          have z' : H a = none := z
          rw [this] at z'; cases z'
    · exact p.nw a z
  · rcases q.fm a z with w | w
    · exact p.fm a w
    · cases e : B.H0 a with
      | none => exact .inr rfl
      | some u =>
        by_cases o : Ow B.ad0 B.δ0 a
        · obtain ⟨i, s, q1, q2, q3⟩ := o
          exact .inl (by rw [← q3]; exact bo.own i s q1 q2)
        · have := p.fr a u e o
          have z' : H a = none := w
          rw [this] at z'; cases z'
theorem Rt.comp {R : D → List Slot → Prop} {v : V} {H1 : Hp} (bo : BdOk B) (p : Pt K B δ σ H M ad) (q : Rt K (Bd.here M H ad δ) R v H1) : Rt K B R v H1 := by
  obtain ⟨d, δ', r, dv, fr, ps⟩ := q
  refine ⟨d, δ', r, dp_mono (mask_sub p.sub) _ dv, fun a o e n => fr a o (p.fr a o e n) fun w => ?_, fun i s e w => ?_⟩
  · rcases p.nw a w with z | z
    · rw [e] at z; cases z
    · exact n z
  · obtain ⟨e1, s', e2, w2⟩ := p.ps i s e w
    obtain ⟨s'', e3, w3, ok⟩ := ps i s' e2 w2
    have ok' : SlotOk K M H1 (some (.ref (ad.getD i 0))) (ad.getD i 0) s'' := ok
    rw [e1] at ok'
    exact ⟨s'', e3, w3, ok'.sub p.sub fun _ => bo.own i s e w⟩
/-- between two points the masked view grows -/
theorem Pt.view {δ1 : List Slot} {σ1 : L2.St} {H1 : Hp} {M1 ad1 : List Addr} (p : Pt K B δ σ H M ad) (q : Pt K (Bd.here M H ad δ) δ1 σ1 H1 M1 ad1) : Same (mask M H) (mask M1 H1) := fun b u e => by
  obtain ⟨h1, h2⟩ := mask_some e
  have h3 : H1 b = some u := q.fr b u h2 fun w => h1 (p.sm.owM w)
  rw [mask_out]
  · exact h3
  · intro z
    rcases q.fm b z with w | w
    · exact h1 w
    · have w' : H b = none := w
      rw [h2] at w'; cases w'
end
section
variable {S : Sc} {B : Bd} {δ : List Slot} {σ : L2.St} {H : Hp} {M ad : List Addr} {C : Cn}
/-- the ends, told from the point of the entry too -/
def endsAt (K : PySem.W.Frag) (B B' : Bd) (C : Cn) : Ends where
  nx := fun σ H => ∃ δ M ad, C.nx δ ∧ Pt K B δ σ H M ad ∧ Pt K B' δ σ H M ad
  rt := Rt K B C.rt
  bk := fun σ H => ∃ δ M ad, C.bk δ ∧ Pt K B δ σ H M ad ∧ Pt K B' δ σ H M ad
  ct := fun σ H => ∃ δ M ad, C.ct δ ∧ Pt K B δ σ H M ad ∧ Pt K B' δ σ H M ad
theorem sds_run {X : Cx} {sts : List Stmt} (h : SDs S sts δ C) (ok : S.Ok X) (bo : BdOk B) (p : Pt S.g.K B δ σ H M ad) : TSsx X sts (endsAt S.g.K B (Bd.here M H ad δ) C) σ H := by
  intro pins s I
  refine thn (h X ok _ p.hereOk σ H ⟨M, ad, p.here⟩ pins s I) fun f s1 q => ?_
  cases f with
  | next => obtain ⟨σ', H', I', δ', c, M', ad', r⟩ := q; exact ⟨σ', H', I', δ', M', ad', c, p.comp bo r, r⟩
  | brk => obtain ⟨σ', H', I', δ', c, M', ad', r⟩ := q; exact ⟨σ', H', I', δ', M', ad', c, p.comp bo r, r⟩
  | cont => obtain ⟨σ', H', I', δ', c, M', ad', r⟩ := q; exact ⟨σ', H', I', δ', M', ad', c, p.comp bo r, r⟩
  | ret u => obtain ⟨v, σ', H', I', rv, r⟩ := q; exact ⟨v, σ', H', I', rv, r.comp bo p⟩
end
/-- the slot of a name, and what stands behind a store -/
inductive LookS : List Str → List Slot → Str → Nat → Slot → Slot → List Slot → Prop
  | here {N : List Str} {δ : List Slot} {x : Str} {s s' : Slot} : LookS (x :: N) (s :: δ) x 0 s s' (s' :: δ)
  | there {N : List Str} {δ δ' : List Slot} {x y : Str} {s s' t : Slot} {i : Nat} : LookS N δ x i s s' δ' → LookS (y :: N) (t :: δ) x (i + 1) s s' (t :: δ')
theorem LookS.name : ∀ {N : List Str} {δ δ' : List Slot} {x : Str} {i : Nat} {s s' : Slot}, LookS N δ x i s s' δ' → N[i]? = some x
  | _, _, _, _, _, _, _, .here => rfl
  | _, _, _, _, _, _, _, .there h => by rw [List.getElem?_cons_succ]; exact h.name
theorem LookS.slot : ∀ {N : List Str} {δ δ' : List Slot} {x : Str} {i : Nat} {s s' : Slot}, LookS N δ x i s s' δ' → δ[i]? = some s
  | _, _, _, _, _, _, _, .here => rfl
  | _, _, _, _, _, _, _, .there h => by rw [List.getElem?_cons_succ]; exact h.slot
theorem LookS.eq : ∀ {N : List Str} {δ δ' : List Slot} {x : Str} {i : Nat} {s s' : Slot}, LookS N δ x i s s' δ' → δ.set i s' = δ'
  | _, _, _, _, _, _, _, .here => rfl
  | _, _, _, _, _, _, _, .there h => by rw [List.set_cons_succ, h.eq]
section
variable {S : Sc} {δ : List Slot} {C : Cn}
theorem sd_mono {st : Stmt} {C' : Cn} (h : SD S st δ C) (h1 : ∀ δ, C.nx δ → C'.nx δ) (h2 : ∀ d δ, C.rt d δ → C'.rt d δ) (h3 : ∀ δ, C.bk δ → C'.bk δ) (h4 : ∀ δ, C.ct δ → C'.ct δ) : SD S st δ C' := by
  intro X ok B bo σ H p pins s I
  refine thn (h X ok B bo σ H p pins s I) fun f s1 q => ?_
  cases f with
  | next => obtain ⟨σ', H', I', δ', q, r⟩ := q; exact ⟨σ', H', I', δ', h1 _ q, r⟩
  | brk => obtain ⟨σ', H', I', δ', q, r⟩ := q; exact ⟨σ', H', I', δ', h3 _ q, r⟩
  | cont => obtain ⟨σ', H', I', δ', q, r⟩ := q; exact ⟨σ', H', I', δ', h4 _ q, r⟩
  | ret u => obtain ⟨v, σ', H', I', rv, d, δ', q, r⟩ := q; exact ⟨v, σ', H', I', rv, d, δ', h2 _ _ q, r⟩
theorem sds_mono {st : List Stmt} {C' : Cn} (h : SDs S st δ C) (h1 : ∀ δ, C.nx δ → C'.nx δ) (h2 : ∀ d δ, C.rt d δ → C'.rt d δ) (h3 : ∀ δ, C.bk δ → C'.bk δ) (h4 : ∀ δ, C.ct δ → C'.ct δ) : SDs S st δ C' := by
  intro X ok B bo σ H p pins s I
  refine thn (h X ok B bo σ H p pins s I) fun f s1 q => ?_
  cases f with
  | next => obtain ⟨σ', H', I', δ', q, r⟩ := q; exact ⟨σ', H', I', δ', h1 _ q, r⟩
  | brk => obtain ⟨σ', H', I', δ', q, r⟩ := q; exact ⟨σ', H', I', δ', h3 _ q, r⟩
  | cont => obtain ⟨σ', H', I', δ', q, r⟩ := q; exact ⟨σ', H', I', δ', h4 _ q, r⟩
  | ret u => obtain ⟨v, σ', H', I', rv, d, δ', q, r⟩ := q; exact ⟨v, σ', H', I', rv, d, δ', h2 _ _ q, r⟩
theorem sds_nil (q : C.nx δ) : SDs S [] δ C := fun X ok B bo σ H p => tss_of pss_nil ⟨δ, q, p⟩
theorem sds_cons {st : Stmt} {rest : List Stmt} (h : SD S st δ { C with nx := fun δ1 => SDs S rest δ1 C }) : SDs S (st :: rest) δ C := by
  intro X ok B bo σ H p
  refine tss_of (pss_cons ps_x pss_x) fun pins s I => thn (h X ok B bo σ H p pins s I) fun f s1 q => ?_
  cases f with
  | next => obtain ⟨σ', H', I', δ', q, r⟩ := q; exact ⟨σ', H', I', q X ok B bo σ' H' r⟩
  | brk => exact q
  | cont => exact q
  | ret u => exact q
theorem sds_one {st : Stmt} (h : SD S st δ C) : SDs S [st] δ C := fun X ok B bo σ H p => tss_of (pss_one ps_x) (h X ok B bo σ H p)
/-- a word between two parts -/
theorem sds_cut {st : Stmt} {rest : List Stmt} (Mid : List Slot → Prop) (h : SD S st δ { C with nx := Mid }) (k : ∀ δ1, Mid δ1 → SDs S rest δ1 C) : SDs S (st :: rest) δ C :=
  sds_cons (sd_mono h (fun δ1 q => k δ1 q) (fun _ _ q => q) (fun _ q => q) (fun _ q => q))
theorem loc_of {X : Cx} (ok : S.Ok X) {x : Str} (h : Loc S.sc x) : Loc X.env.scope x := by rw [ok.sc]; exact h
theorem fn_or {X : Cx} (ok : S.Ok X) {x : Str} (ht : S.top = true ∨ S.sc.names.lookup x = some .local) : X.fn x = true ∨ X.env.scope.names.lookup x = some .local := by
  rcases ht with t | t
  · exact .inl (ok.fn t x)
  · exact .inr (by rw [ok.sc]; exact t)
/-- x = e -/
theorem sd_set {x : Str} {pos' pos : Pos} {e : Expr} (h : EvD S e δ fun d δ1 => ∃ i s δ2, LookS S.N δ1 x i s (.imm d) δ2 ∧ s.own = false ∧ C.nx δ2) (hx : Loc S.sc x) (ht : S.top = true ∨ S.sc.names.lookup x = some .local)
    (hs : ∀ env, swapsWith e (some (.Name x pos')) pos.line env = pure false := by intro _; rfl) : SD S (.Assign [.Name x pos'] e pos) δ C := by
  intro X ok B bo σ H ⟨M, ad, p⟩
  intro pins s I
  refine wpAny_Assign_Name (thn (h X ok M ad σ H p.sm pins s I) fun u s1 ⟨v, H1, I1, r1, d, δ1, ⟨i, sl, δ2, l, w, q⟩, st, hd⟩ => ?_) (hs _)
  exact store_ok I1 (by rw [ok.N]; exact ok.nd) (by rw [ok.N]; exact l.name) (loc_of ok hx) r1 (fun s2 I2 => ⟨_, H1, I2, δ2, q, M, ad, by rw [← l.eq]; exact (p.step st).set l.slot w hd⟩) (fn_or ok ht)
theorem sd_ret {e : Expr} {pos : Pos} (h : EvD S e δ C.rt) : SD S (.Return (some e) pos) δ C := by
  intro X ok B bo σ H ⟨M, ad, p⟩
  refine ts_of (ps_ret pe_x) (te_mono (h X ok M ad σ H p.sm) fun v H1 ⟨d, δ1, q, st, hd⟩ => ?_)
  have p1 := p.step st
  refine ⟨d, δ1, q, dp_mono (mask_sub p1.sub) _ hd, p1.fr, fun i s e w => ?_⟩
  obtain ⟨e1, s', e2, w2⟩ := p1.ps i s e w
  have z := p1.sm.ok i s' e2
  rw [((p1.sm.ok i s' e2).inM w2).2.1, e1] at z
  exact ⟨s', e2, w2, z.sub p1.sub fun _ => bo.own i s e w⟩
theorem sd_expr {e : Expr} {pos : Pos} (h : EvD S e δ fun _ δ1 => C.nx δ1) (hs : ∀ env, swapsWith e none pos.line env = pure false := by intro _; rfl) : SD S (.Expr e pos) δ C := by
  intro X ok B bo σ H ⟨M, ad, p⟩
  exact ts_of (ps_expr pe_x (hs _)) (te_mono (h X ok M ad σ H p.sm) fun v H1 ⟨d, δ1, q, st, hd⟩ => ⟨δ1, q, M, ad, p.step st⟩)
theorem sd_if {c : Expr} {a b : List Stmt} {pos : Pos} (h : EtD S c δ fun k δ1 => (k = true → SDs S a δ1 C) ∧ (k = false → SDs S b δ1 C)) : SD S (.If c a b pos) δ C := by
  intro X ok B bo σ H ⟨M, ad, p⟩
  refine ts_of (ps_if pt_x pss_x pss_x) (tt_mono (h X ok M ad σ H p.sm) fun k H1 ⟨δ1, ⟨q1, q2⟩, st⟩ => ?_)
  cases k with
  | true => rw [if_pos rfl]; exact q1 rfl X ok B bo σ H1 ⟨M, ad, p.step st⟩
  | false => rw [if_neg Bool.false_ne_true]; exact q2 rfl X ok B bo σ H1 ⟨M, ad, p.step st⟩
end
/-! ### defs -/
/-- what a def does: its arguments' slots, what it hands back, the slots behind it -/
abbrev Ct := List Slot → D → List Slot → Prop
structure FnC (g : Ga) (k : Nat) (f : Addr) (fd : FuncData) (ps : List Str) (R : Ct) : Prop where
  run : ∀ (A : Around) (outer : List Env) (s : Shared) (H : Hp) (args : Args) (us : List Value) (vs : List V) (Q : VK) (δ : List Slot) (d : D) (δ' : List Slot) (M ad : List Addr), Room k A → A.guards = some [] → Env0 g.P g.w g.K g.mg g.base A outer s H → BindsTo s fd args (ps.zip us) → Vals vs us → R δ d δ' →
    Sm g.K M H ad δ (vs.map some) → (∀ v H', Da g.K (mask M H') v d → Stp g.K M ad (vs.map some) δ H δ' H' → Q v H') →
    codeAny (model g.P g.w) A (.call (.ref f) args) (CR CX0 outer g.P g.w H s Q E0) s
structure CallOk (g : Ga) (k : Nat) (x : Str) (R : Ct) : Prop where
  ex : ∃ f fd ps, g.mg x = some (.ref f) ∧ PySem.W.keepIn g.K (.ref f) = true ∧ Binds g.K fd ps [] ∧ FnC g k f fd ps R ∧ ∀ δ d δ', R δ d δ' → δ.length = ps.length
theorem CallOk.mono {g : Ga} {j k : Nat} {x : Str} {R : Ct} (c : CallOk g j x R) (h : j ≤ k) : CallOk g k x R := by
  obtain ⟨f, fd, ps, h1, h2, h3, h4, h5⟩ := c.ex
  exact ⟨f, fd, ps, h1, h2, h3, ⟨fun A outer s H args us vs Q δ d δ' M ad hr => h4.run A outer s H args us vs Q δ d δ' M ad (hr.mono h)⟩, h5⟩
theorem CallOk.imp {g : Ga} {k : Nat} {x : Str} {R R' : Ct} (c : CallOk g k x R) (h : ∀ δ d δ', R' δ d δ' → R δ d δ') : CallOk g k x R' := by
  obtain ⟨f, fd, ps, h1, h2, h3, h4, h5⟩ := c.ex
  exact ⟨f, fd, ps, h1, h2, h3, ⟨fun A outer s H args us vs Q δ d δ' M ad hr hg e0 hb r hR => h4.run A outer s H args us vs Q δ d δ' M ad hr hg e0 hb r (h _ _ _ hR)⟩, fun δ d δ' r => h5 _ _ _ (h _ _ _ r)⟩
section
variable {S : Sc} {δ : List Slot}
theorem run_fnC {X : Cx} (ok : S.Ok X) {j : Nat} {f : Addr} {fd : FuncData} {ps : List Str} {R : Ct} (F : FnC S.g j f fd ps R) (hb : Binds S.g.K fd ps []) (hj : j ≤ S.k) {args args' : List Slot} {d : D} {M ad : List Addr} {vs : List V} {H : Hp} {Q : VK} (hR : R args d args') (hl : args.length = ps.length)
    (sm : Sm S.g.K M H ad args (vs.map some)) (h : ∀ v H', Da S.g.K (mask M H') v d → Stp S.g.K M ad (vs.map some) args H args' H' → Q v H') : RCl X (.ref f) vs H Q := by
  intro pins s σ us I rv
  have lv : us.length = ps.length := by
    have := sm.len
    rw [List.length_map] at this
    rw [← rv.length, this, hl]
  have e0 := I.env0
  rw [ok.prog, ok.w, ok.K, ok.mg, ok.base] at e0
  have kin : S.g.K.In s.heap := by rw [← ok.K]; exact I.kIn
  have bt : BindsTo s fd ⟨us, []⟩ (ps.zip us) := by
    have z := hb s us kin (by rw [List.append_nil]; exact lv)
    rwa [List.append_nil] at z
  have run := F.run X.A X.stack s H ⟨us, []⟩ us vs Q args d args' M ad (ok.room.mono hj) ok.gd e0 bt rv hR sm h
  rw [← ok.prog, ← ok.w] at run
  refine wpAny_call (codeAny_mono run fun r s' hq => ?_)
  cases r with
  | error e => exact False.elim hq
  | ok fl =>
    cases fl with
    | ret u => exact I.after hq
    | next => exact False.elim hq
    | brk => exact False.elim hq
    | cont => exact False.elim hq
theorem sm_imms {K : PySem.W.Frag} {M : List Addr} {H : Hp} {vs : List V} {ds : List D} (tr : ∀ a ∈ M, ∃ o, H a = some o) (a : DaAll K (mask M H) vs ds) : Sm K M H [] (ds.map .imm) (vs.map some) := by
  have no : ∀ (i : Nat) s, (ds.map Slot.imm)[i]? = some s → s.own = true → False := fun i s q w => by
    rw [List.getElem?_map] at q
    cases e : ds[i]? with
    | none => rw [e] at q; cases q
    | some d => rw [e] at q; cases q; cases w
  refine ⟨by rw [List.length_map, List.length_map, dpAll_len a], fun i s q => ?_, fun i j s t a b c _ _ => (no i s a c).elim, tr⟩
  rw [List.getElem?_map] at q
  cases e : ds[i]? with
  | none => rw [e] at q; cases q
  | some d =>
    rw [e] at q
    cases q
    obtain ⟨v, e1, e2⟩ := dpAll_get a e
    refine ⟨v, ?_, e2⟩
    rw [List.getD_eq_getElem?_getD, List.getElem?_map, e1]
    rfl
theorem ow_imms {ad : List Addr} {ds : List D} {a : Addr} : ¬ Ow ad (ds.map .imm) a := fun ⟨i, s, q, w, _⟩ => by
  rw [List.getElem?_map] at q
  cases e : ds[i]? with
  | none => rw [e] at q; cases q
  | some d => rw [e] at q; cases q; cases w
/-- a call, all arguments data -/
theorem ev_call {x : Str} {j : Nat} {R : Ct} {e : Expr} {es : List Expr} {p pos : Pos} {Q : D → List Slot → Prop} (c : CallOk S.g j x R) (hj : j ≤ S.k) (hg : S.sc.names.lookup x = some .globalImplicit)
    (h : EaD S (e :: es) δ fun as δ1 => ∃ (ds : List D) (d : D), as = ds.map .imm ∧ R (ds.map .imm) d (ds.map .imm) ∧ Q d δ1) (hdb : (x == ("__debug__" : Str)) = false := by decide)
    (he : ∀ env, starEach (e :: es) env = (false, eval e env) :: starEach es env := by intro _; rfl) (hpl : ∀ env, (backTo pos (starEach es env)).any (·.1) = false := by intro _; rfl) : EvD S (.Call (.Name x p) (e :: es) [] pos) δ Q := by
  intro X ok M ad σ H sm
  obtain ⟨f, fd, ps, h1, h2, h3, h4, h5⟩ := c.ex
  intro pins s I
  refine wpAny_Call_Name_kw (ld_glob I (gl_of ok hg) (mg_of' ok h1) ?_ hdb)
  refine PySem.W.callWith_K (h₀ := X.base) I.ok.mod.kin (by rw [ok.K]; exact h2) (thn (h X ok M ad σ H sm pos pins s I) fun us s1 ⟨vs, H1, I1, r1, as, δ1, ⟨ds, d, ea, hR, q⟩, st, ra⟩ => ⟨I1.kIn, ?_⟩) (he _) (hpl _)
  subst ea
  have a := ar_imms ra
  refine run_fnC ok h4 h3 hj hR (h5 _ _ _ hR) (sm_imms st.sm.tr a) (fun v H2 dv st2 => ?_) pins s1 σ us I1 r1
  exact ⟨d, δ1, q, st.trans (.grow st.sm fun b o z => st2.keep b o z ow_imms), dv⟩
end
end Fb
end
section
namespace Fb
open PySem PySem.Spec PyProof.Rows L2
/-! ### what is walked -/
structure ItOk (K : PySem.W.Frag) (M : List Addr) (J : It) (ds : List D) (H1 : Hp) : Prop where
  go : ∀ i M' H', i < ds.length → Same (mask M H1) (mask M' H') → J.go i H'
  yld : ∀ i M' H' x H'', Same (mask M H1) (mask M' H') → (∀ a ∈ M', ∃ o, H' a = some o) → J.yld i H' x H'' → Same H' H'' ∧ ∀ d, ds[i]? = some d → Da K (mask M' H'') x d
  stop : ∀ M' H', Same (mask M H1) (mask M' H') → J.stop ds.length H'
section
variable (S : Sc)
def EiD (tg iter : Expr) (δ : List Slot) (Q : List D → List Slot → Prop) : Prop :=
  ∀ X, S.Ok X → ∃ wi : TI, PI X tg iter wi ∧ ∀ M ad σ H, Sm S.g.K M H ad δ σ → ∀ R : It → Hp → Prop, (∀ J H1 δ1 ds, Q ds δ1 → Stp S.g.K M ad σ δ H δ1 H1 → ItOk S.g.K M J ds H1 → R J H1) → wi σ H R
end
section
variable {S : Sc} {δ : List Slot} {tg : Expr}
theorem itok_list {K : PySem.W.Frag} {M : List Addr} {H : Hp} {a : Addr} {vs : List V} {ds : List D} (h : mask M H a = some (.lst vs)) (d : DaAll K (mask M H) vs ds) : ItOk K M (Itl K a) ds H where
  go := fun i M' H' hi e => by
    have q : H' a = some (.lst vs) := (mask_some (e _ _ h)).2
    have l := dpAll_len d
    exact ⟨vs, vs[i]'(by omega), SqL.of q, List.getElem?_eq_getElem (by omega)⟩
  yld := fun i M' H' x H'' e tr y => by
    obtain ⟨ee, y⟩ := y
    subst ee
    have q := (mask_some (e _ _ h)).2
    refine ⟨Same.refl _, fun z hz => ?_⟩
    obtain ⟨v, e1, e2⟩ := dpAll_get d hz
    have e3 := y vs (SqL.of q)
    rw [e1] at e3
    cases e3
    exact dp_mono e _ e2
  stop := fun M' H' e => by
    have q : H' a = some (.lst vs) := (mask_some (e _ _ h)).2
    exact ⟨vs, SqL.of q, by rw [dpAll_len d]; exact Nat.le_refl _⟩
theorem itok_tup {K : PySem.W.Frag} {M : List Addr} {H : Hp} {a : Addr} {vs : List V} {ds : List D} (h : mask M H a = some (.tup vs)) (d : DaAll K (mask M H) vs ds) : ItOk K M (Itt K a) ds H where
  go := fun i M' H' hi e => by
    have q : H' a = some (.tup vs) := (mask_some (e _ _ h)).2
    have l := dpAll_len d
    exact ⟨vs, vs[i]'(by omega), SqT.of q, List.getElem?_eq_getElem (by omega)⟩
  yld := fun i M' H' x H'' e tr y => by
    obtain ⟨ee, y⟩ := y
    subst ee
    have q := (mask_some (e _ _ h)).2
    refine ⟨Same.refl _, fun z hz => ?_⟩
    obtain ⟨v, e1, e2⟩ := dpAll_get d hz
    have e3 := y vs (SqT.of q)
    rw [e1] at e3
    cases e3
    exact dp_mono e _ e2
  stop := fun M' H' e => by
    have q : H' a = some (.tup vs) := (mask_some (e _ _ h)).2
    exact ⟨vs, SqT.of q, by rw [dpAll_len d]; exact Nat.le_refl _⟩
/-- a list, a tuple -/
theorem ei_list {l : Expr} {Q : List D → List Slot → Prop} (h : EvD S l δ fun d δ1 => ∃ ds, d = .list ds ∧ Q ds δ1) : EiD S tg l δ Q := fun X ok => ⟨_, pi_list pe_x, fun M ad σ H sm R k => by
  refine te_mono (h X ok M ad σ H sm) fun v H1 ⟨d, δ1, ⟨ds, e, q⟩, st, dv⟩ => ?_
  subst e
  cases dv with
  | lst h1 a1 => exact ⟨_, rfl, ⟨_, SqL.of (mask_some h1).2⟩, k _ H1 δ1 ds q st (by rw [ok.K]; exact itok_list h1 a1)⟩⟩
theorem ei_tup {l : Expr} {Q : List D → List Slot → Prop} (h : EvD S l δ fun d δ1 => ∃ ds, d = .tuple ds ∧ Q ds δ1) : EiD S tg l δ Q := fun X ok => ⟨_, pi_tup pe_x, fun M ad σ H sm R k => by
  refine te_mono (h X ok M ad σ H sm) fun v H1 ⟨d, δ1, ⟨ds, e, q⟩, st, dv⟩ => ?_
  subst e
  cases dv with
  | tup h1 a1 => exact ⟨_, rfl, ⟨_, SqT.of (mask_some h1).2⟩, k _ H1 δ1 ds q st (by rw [ok.K]; exact itok_tup h1 a1)⟩⟩
/-- lo, lo + c, .. -/
def rgD (lo c : Int) (n : Nat) : List D := (List.range n).map fun i => .int (lo + (i : Nat) * c)
theorem rgD_len {lo c : Int} {n : Nat} : (rgD lo c n).length = n := by unfold rgD; rw [List.length_map, List.length_range]
theorem rgD_get {lo c : Int} {n i : Nat} {d : D} (h : (rgD lo c n)[i]? = some d) : i < n ∧ d = .int (lo + (i : Nat) * c) := by
  unfold rgD at h
  rw [List.getElem?_map] at h
  by_cases hi : i < n
  · rw [List.getElem?_range hi] at h
    cases h
    exact ⟨hi, rfl⟩
  · rw [List.getElem?_eq_none (by rw [List.length_range]; omega)] at h
    cases h
theorem itok_rng {K : PySem.W.Frag} {M : List Addr} {H : Hp} {lo : Int} {n : Nat} : ItOk K M (Itr lo n) (rgD lo 1 n) H where
  go := fun i M' H' hi e => by rw [rgD_len] at hi; exact hi
  yld := fun i M' H' x H'' e tr y => by
    obtain ⟨ee, rfl⟩ := y
    subst ee
    refine ⟨Same.refl _, fun d hd => ?_⟩
    obtain ⟨_, rfl⟩ := rgD_get hd
    rw [Int.mul_one]
    exact .int _
  stop := fun M' H' e => by rw [rgD_len]; exact Nat.le_refl _
theorem itok_rngC {K : PySem.W.Frag} {M : List Addr} {H : Hp} {lo c : Int} {n : Nat} : ItOk K M (Itc lo c n) (rgD lo c n) H where
  go := fun i M' H' hi e => by rw [rgD_len] at hi; exact hi
  yld := fun i M' H' x H'' e tr y => by
    obtain ⟨ee, rfl⟩ := y
    subst ee
    refine ⟨Same.refl _, fun d hd => ?_⟩
    obtain ⟨_, rfl⟩ := rgD_get hd
    exact .int _
  stop := fun M' H' e => by rw [rgD_len]; exact Nat.le_refl _
theorem ei_rng1 {a : Expr} {p pos : Pos} {Q : List D → List Slot → Prop} (hg : S.sc.names.lookup ("range" : Str) = some .globalImplicit) (hm : S.g.mg "range" = none)
    (h : EvD S a δ fun d δ1 => ∃ j, d = .int j ∧ -(2 ^ 62) ≤ j ∧ j < 2 ^ 62 ∧ Q (rgD 0 1 j.toNat) δ1) (hs : ∀ env, starEach [a] env = [(false, eval a env)] := by intro _; rfl) : EiD S tg (.Call (.Name "range" p) [a] [] pos) δ Q := fun X ok =>
  ⟨_, pi_range1 (gl_of ok hg) (mg_of' ok hm) (pa_cons pe_x pa_nil (hs _)) (hs _), fun M ad σ H sm R k => by
  refine te_mono (h X ok M ad σ H sm) fun v H1 ⟨d, δ1, ⟨j, e, b1, b2, q⟩, st, dv⟩ => ?_
  subst e
  cases dv
  exact ⟨j, rfl, b1, b2, k _ H1 δ1 _ q st itok_rng⟩⟩
theorem ei_rng2 {a b : Expr} {p pos : Pos} {Q : List D → List Slot → Prop} (hg : S.sc.names.lookup ("range" : Str) = some .globalImplicit) (hm : S.g.mg "range" = none)
    (h : EvD S a δ fun d δ1 => EvD S b δ1 fun e δ2 => ∃ i j, d = .int i ∧ e = .int j ∧ (-(2 ^ 62) ≤ i ∧ i < 2 ^ 62 ∧ -(2 ^ 62) ≤ j ∧ j < 2 ^ 62) ∧ Q (rgD i 1 (j - i).toNat) δ2)
    (hs : ∀ env, starEach [a, b] env = [(false, eval a env), (false, eval b env)] := by intro _; rfl) (hs2 : ∀ env, starEach [b] env = [(false, eval b env)] := by intro _; rfl) : EiD S tg (.Call (.Name "range" p) [a, b] [] pos) δ Q := fun X ok =>
  ⟨_, pi_range2 (gl_of ok hg) (mg_of' ok hm) (pa_cons pe_x (pa_cons pe_x pa_nil (hs2 _)) (by rw [hs, hs2])) (hs _) (hs2 _), fun M ad σ H sm R k => by
  refine te_mono (h X ok M ad σ H sm) fun v H1 ⟨d, δ1, q1, st, dv⟩ => te_mono (q1 X ok M ad σ H1 st.sm) fun u H2 ⟨e, δ2, ⟨i, j, e1, e2, bd, q⟩, st2, du⟩ => ?_
  subst e1 e2
  cases dv
  cases du
  exact ⟨i, j, rfl, bd, k _ H2 δ2 _ q (st.trans st2) itok_rng⟩⟩
/-- range(a, -1, -1) -/
theorem ei_down {a b c : Expr} {p pos : Pos} {Q : List D → List Slot → Prop} (hg : S.sc.names.lookup ("range" : Str) = some .globalImplicit) (hm : S.g.mg "range" = none)
    (h : EvD S a δ fun d δ1 => EvD S b δ1 fun e δ2 => EvD S c δ2 fun f δ3 => ∃ i j, d = .int i ∧ e = .int j ∧ f = .int (-1) ∧ (-(2 ^ 62) ≤ i ∧ i < 2 ^ 62 ∧ -(2 ^ 62) ≤ j ∧ j < 2 ^ 62) ∧ Q (rgD i (-1) (i - j).toNat) δ3)
    (hs : ∀ env, starEach [a, b, c] env = (false, eval a env) :: starEach [b, c] env := by intro _; rfl) (hs2 : ∀ env, starEach [b, c] env = (false, eval b env) :: starEach [c] env := by intro _; rfl) (hs3 : ∀ env, starEach [c] env = (false, eval c env) :: starEach [] env := by intro _; rfl)
    (hpl : ∀ env, (backTo pos (starEach [b, c] env)).any (·.1) = false := by intro _; rfl) : EiD S tg (.Call (.Name "range" p) [a, b, c] [] pos) δ Q := fun X ok =>
  ⟨_, pi_range3 (gl_of ok hg) (mg_of' ok hm) (pa_cons pe_x (pa_cons pe_x (pa_cons pe_x pa_nil (hs3 _)) (hs2 _)) (hs _)) (hs _) (hpl _), fun M ad σ H sm R k => by
  refine te_mono (h X ok M ad σ H sm) fun v H1 ⟨d, δ1, q1, st, dv⟩ => te_mono (q1 X ok M ad σ H1 st.sm) fun u H2 ⟨e, δ2, q2, st2, du⟩ => te_mono (q2 X ok M ad σ H2 st2.sm) fun w H3 ⟨f, δ3, ⟨i, j, e1, e2, e3, ⟨b1, b2, b3, b4⟩, q⟩, st3, dw⟩ => ?_
  subst e1 e2 e3
  cases dv
  cases du
  cases dw
  exact ⟨i, j, -1, _, rfl, RgC.neg b1 b2 b3 b4, k _ H3 δ3 _ q ((st.trans st2).trans st3) itok_rngC⟩⟩
/-- zip of two tuples -/
theorem itok_zip {K : PySem.W.Frag} {M : List Addr} {H : Hp} {a b : Addr} {vs us : List V} {ds es : List D} (h : mask M H a = some (.tup vs)) (d : DaAll K (mask M H) vs ds) (h' : mask M H b = some (.tup us)) (d' : DaAll K (mask M H) us es) :
    ItOk K M (RZ.ItzT K a b) ((ds.zip es).map fun p => .tuple [p.1, p.2]) H where
  go := fun i M' H' hi e => by
    have q : H' a = some (.tup vs) := (mask_some (e _ _ h)).2
    have q' : H' b = some (.tup us) := (mask_some (e _ _ h')).2
    have l := dpAll_len d
    have l' := dpAll_len d'
    rw [List.length_map, List.length_zip] at hi
    exact ⟨vs, us, vs[i]'(by omega), us[i]'(by omega), SqT.of q, SqT.of q', List.getElem?_eq_getElem (by omega), List.getElem?_eq_getElem (by omega)⟩
  yld := fun i M' H' x H'' e tr y => by
    obtain ⟨T, x1, y1, rfl, hT, rfl, f1, f2⟩ := y
    have q : H' a = some (.tup vs) := (mask_some (e _ _ h)).2
    have q' : H' b = some (.tup us) := (mask_some (e _ _ h')).2
    refine ⟨same_new hT, fun z hz => ?_⟩
    rw [List.getElem?_map] at hz
    cases ez : (ds.zip es)[i]? with
    | none => rw [ez] at hz; cases hz
    | some p =>
      rw [ez] at hz
      cases hz
      rw [List.getElem?_zip_eq_some] at ez
      obtain ⟨v, e1, e2⟩ := dpAll_get d ez.1
      obtain ⟨u, e3, e4⟩ := dpAll_get d' ez.2
      have g1 := f1 vs (SqT.of q)
      have g2 := f2 us (SqT.of q')
      rw [e1] at g1
      rw [e3] at g2
      cases g1
      cases g2
      exact (new_tup tr hT (.cons (dp_mono e _ e2) (.cons (dp_mono e _ e4) .nil))).2
  stop := fun M' H' e => by
    have q : H' a = some (.tup vs) := (mask_some (e _ _ h)).2
    have q' : H' b = some (.tup us) := (mask_some (e _ _ h')).2
    refine ⟨vs, us, SqT.of q, SqT.of q', ?_⟩
    rw [List.length_map, List.length_zip, dpAll_len d, dpAll_len d']
    omega
theorem ei_zip {a b : Expr} {p pos tpos : Pos} {elts : List Expr} {kk : Nat} {Q : List D → List Slot → Prop} (hg : S.sc.names.lookup ("zip" : Str) = some .globalImplicit) (hm : S.g.mg "zip" = none)
    (h : EvD S a δ fun d δ1 => EvD S b δ1 fun e δ2 => ∃ ds es, d = .tuple ds ∧ e = .tuple es ∧ Q ((ds.zip es).map fun p => .tuple [p.1, p.2]) δ2)
    (hs : ∀ env, starEach [a, b] env = (false, eval a env) :: starEach [b] env := by intro _; rfl) (hs2 : ∀ env, starEach [b] env = (false, eval b env) :: starEach [] env := by intro _; rfl) (hpl : ∀ env, (backTo pos (starEach [b] env)).any (·.1) = false := by intro _; rfl) :
    EiD S (.Tuple elts kk tpos) (.Call (.Name "zip" p) [a, b] [] pos) δ Q := fun X ok =>
  ⟨_, RZ.pi_zipA (gl_of ok hg) (mg_of' ok hm) (pa_cons pe_x (pa_cons pe_x pa_nil (hs2 _)) (hs _)) (hs _) (hpl _), fun M ad σ H sm R k => by
  refine te_mono (h X ok M ad σ H sm) fun v H1 ⟨d, δ1, q1, st, dv⟩ => te_mono (q1 X ok M ad σ H1 st.sm) fun u H2 ⟨e, δ2, ⟨ds, es, e1, e2, q⟩, st2, du⟩ => ?_
  subst e1 e2
  have dv2 := dp_mono (st.sm.same st2.keep) _ dv
  cases dv2 with
  | tup h1 a1 =>
    cases du with
    | tup h2 a2 =>
      exact ⟨_, _, _, _, rfl, .inr ⟨SqT.of (mask_some h1).2, SqT.of (mask_some h2).2, k _ H2 δ2 _ q (st.trans st2) (by rw [ok.K]; exact itok_zip h1 a1 h2 a2)⟩⟩⟩
end
/-! ### slots forgotten -/
inductive Weak : List Slot → List Slot → Prop
  | nil : Weak [] []
  | same {s : Slot} {δ δ' : List Slot} : Weak δ δ' → Weak (s :: δ) (s :: δ')
  | un {s : Slot} {δ δ' : List Slot} : s.own = false → Weak δ δ' → Weak (s :: δ) (.un :: δ')
theorem Weak.refl : ∀ δ : List Slot, Weak δ δ
  | [] => .nil
  | _ :: δ => .same (Weak.refl δ)
theorem Weak.at : ∀ {δ δ' : List Slot}, Weak δ δ' → ∀ (i : Nat) t, δ'[i]? = some t → δ[i]? = some t ∨ (t = .un ∧ ∃ s, δ[i]? = some s ∧ s.own = false)
  | _, _, .nil, _, _, h => by simp at h
  | _, _, .same w, 0, t, h => .inl h
  | _, _, .un o w, 0, t, h => by
    simp at h
    exact .inr ⟨h.symm, _, rfl, o⟩
  | _, _, .same w, i + 1, t, h => by
    rw [List.getElem?_cons_succ] at h ⊢
    exact w.at i t h
  | _, _, .un o w, i + 1, t, h => by
    rw [List.getElem?_cons_succ] at h ⊢
    exact w.at i t h
theorem Weak.back : ∀ {δ δ' : List Slot}, Weak δ δ' → ∀ (i : Nat) s, δ[i]? = some s → s.own = true → δ'[i]? = some s
  | _, _, .nil, _, _, h, _ => by simp at h
  | _, _, .same w, 0, t, h, _ => h
  | _, _, .un o w, 0, t, h, z => by
    simp at h
    rw [h] at o
    rw [o] at z; cases z
  | _, _, .same w, i + 1, t, h, z => by
    rw [List.getElem?_cons_succ] at h ⊢
    exact w.back i t h z
  | _, _, .un o w, i + 1, t, h, z => by
    rw [List.getElem?_cons_succ] at h ⊢
    exact w.back i t h z
theorem Weak.len : ∀ {δ δ' : List Slot}, Weak δ δ' → δ.length = δ'.length
  | _, _, .nil => rfl
  | _, _, .same w => by rw [List.length_cons, List.length_cons, w.len]
  | _, _, .un _ w => by rw [List.length_cons, List.length_cons, w.len]
section
variable {K : PySem.W.Frag} {B : Bd} {δ δ' : List Slot} {σ : L2.St} {H : Hp} {M ad : List Addr}
theorem Sm.weak (h : Sm K M H ad δ σ) (w : Weak δ δ') : Sm K M H ad δ' σ := by
  have key : ∀ (i : Nat) s, δ'[i]? = some s → s.own = true → δ[i]? = some s := fun i s e z => by
    rcases w.at i s e with q | ⟨q, _⟩
    · exact q
    · subst q; cases z
  refine ⟨by rw [h.len, w.len], fun i s e => ?_, fun i j s t a b c d => h.inj i j s t (key i s a c) (key j t b d) c d, h.tr⟩
  rcases w.at i s e with q | ⟨q, _⟩
  · exact h.ok i s q
  · subst q; trivial
theorem Pt.weak (p : Pt K B δ σ H M ad) (w : Weak δ δ') : Pt K B δ' σ H M ad := by
  refine ⟨p.sm.weak w, p.sub, p.fr, fun i s e z => ?_, fun a ⟨i, s, e, z, q⟩ => ?_, p.fm⟩
  · obtain ⟨e1, s', e2, w2⟩ := p.ps i s e z
    exact ⟨e1, s', w.back i s' e2 w2, w2⟩
  · rcases w.at i s e with c | ⟨c, _⟩
    · exact p.nw a ⟨i, s, c, z, q⟩
    · subst c; cases z
end
/-! ### for -/
section
variable {S : Sc} {δ : List Slot} {C : Cn}
/-- a target: what it stores -/
structure TgD (S : Sc) (tg : Expr) (d : D) (δ δ' : List Slot) : Prop where
  ex : ∃ g : TG, (∀ X, S.Ok X → PG X tg g) ∧ ∀ B M ad σ H v, Pt S.g.K B δ σ H M ad → Da S.g.K (mask M H) v d → ∀ Q : L2.St → Hp → Prop, (∀ σ', Pt S.g.K B δ' σ' H M ad → Q σ' H) → g v σ H Q
/-- the readings of targets, at the strongest -/
def TGx (X : Cx) (tg : Expr) : TG := fun v σ H Q => ∀ pins s u, Inv X pins σ H s → RelV v u → wpAny (model X.prog X.w) X.A (assign tg X.env u) (fun _ s' => ∃ σ' H', Inv X pins σ' H' s' ∧ Q σ' H') X.xe s
theorem pg_x {X : Cx} {tg : Expr} : PG X tg (TGx X tg) := ⟨fun pins s σ H v u Q I r h => h pins s u I r⟩
theorem tg_of {X : Cx} {tg : Expr} {g : TG} (h : PG X tg g) {v : V} {σ : L2.St} {H : Hp} {Q : L2.St → Hp → Prop} (q : g v σ H Q) : TGx X tg v σ H Q := fun pins s u I r => h.run pins s σ H v u Q I r q
theorem tgd_name {x : Str} {pos : Pos} {d : D} {δ δ' : List Slot} {i : Nat} {s : Slot} (l : LookS S.N δ x i s (.imm d) δ') (w : s.own = false) (hx : Loc S.sc x) (ht : S.top = true ∨ S.sc.names.lookup x = some .local) : TgD S (.Name x pos) d δ δ' :=
  ⟨gName i, fun X ok => pg_name (by rw [ok.N]; exact ok.nd) (by rw [ok.N]; exact l.name) (loc_of ok hx) (fn_or ok ht), fun B M ad σ H v p dv Q k => k _ (by rw [← l.eq]; exact p.set l.slot w dv)⟩
theorem tgd_pair {x y : Str} {p1 p2 pos : Pos} {kk : Nat} {d e : D} {δ δ' δ'' : List Slot} {i j : Nat} {s t : Slot} (l : LookS S.N δ x i s (.imm d) δ') (w : s.own = false) (l' : LookS S.N δ' y j t (.imm e) δ'') (w' : t.own = false) (hx : Loc S.sc x) (hy : Loc S.sc y)
    (ht : S.top = true ∨ (S.sc.names.lookup x = some .local ∧ S.sc.names.lookup y = some .local)) : TgD S (.Tuple [.Name x p1, .Name y p2] kk pos) (.tuple [d, e]) δ δ'' := by
  refine ⟨gTup S.g.K 2 (gCons (gName i) (gCons (gName j) gNil)), fun X ok => ?_, fun B M ad σ H v p dv Q k => ?_⟩
  · rw [← ok.K]
    exact pg_tup ok.calm (pgs_cons (pg_name (by rw [ok.N]; exact ok.nd) (by rw [ok.N]; exact l.name) (loc_of ok hx) (fn_or ok (ht.imp id And.left))) (pgs_cons (pg_name (by rw [ok.N]; exact ok.nd) (by rw [ok.N]; exact l'.name) (loc_of ok hy) (fn_or ok (ht.imp id And.right))) pgs_nil))
  · cases dv with
    | tup h1 a1 =>
      cases a1 with
      | cons d1 a2 =>
        cases a2 with
        | cons d2 a3 =>
          cases a3
          refine ⟨_, _, rfl, SqT.of (mask_some h1).2, rfl, _, _, rfl, ?_⟩
          have p1 := p.set l.slot w d1
          rw [l.eq] at p1
          have p2 := p1.set l'.slot w' d2
          rw [l'.eq] at p2
          exact ⟨_, _, rfl, rfl, k _ p2⟩
/-- for tg in iter: body -/
theorem sd_for {tg iter : Expr} {body : List Stmt} {pos : Pos}
    (h : EiD S tg iter δ fun ds δ1 => ∃ I : Nat → List Slot → Prop, (∃ δ2, Weak δ1 δ2 ∧ I 0 δ2) ∧
      (∀ (i : Nat) d δ2, ds[i]? = some d → I i δ2 → ∃ δ3, TgD S tg d δ2 δ3 ∧ SDs S body δ3 { C with nx := fun δ4 => ∃ δ5, Weak δ4 δ5 ∧ I (i + 1) δ5, ct := fun δ4 => ∃ δ5, Weak δ4 δ5 ∧ I (i + 1) δ5, bk := C.nx }) ∧
      ∀ δ2, I ds.length δ2 → C.nx δ2) (hs : ∀ env x, foldedSetIterable iter env x = pure x := by intro _ _; rfl) : SD S (.For tg iter body [] pos) δ C := by
  intro X ok B bo σ H ⟨M, ad, p⟩
  obtain ⟨wi, pi, k⟩ := h X ok
  refine ts_of (ps_for (g := TGx X tg) (tb := TSsx X body) (by rw [ok.xe]; exact PassesOwn.never) ok.calm pi pg_x pss_x (hs _)) ?_
  refine k M ad σ H p.sm _ fun J H1 δ1 ds ⟨I, ⟨δ2, wk, i0⟩, turn, fin⟩ st it => ?_
  have p1 := (p.step st).weak wk
  refine ⟨fun i m σ' H' => m = ds.length - i ∧ i ≤ ds.length ∧ ∃ δ3 M' ad', I i δ3 ∧ Pt S.g.K B δ3 σ' H' M' ad' ∧ Same (mask M H1) (mask M' H'), ⟨ds.length, rfl, Nat.zero_le _, δ2, M, ad, i0, p1, Same.refl _⟩, ?_⟩
  rintro i m σ' H' ⟨rfl, hi, δ3, M', ad', hI, p3, e3⟩
  by_cases hlt : i < ds.length
  · have hd : ds[i]? = some ds[i] := List.getElem?_eq_getElem hlt
    refine .inr ⟨it.go i M' H' hlt e3, fun σ4 H4 => i + 1 ≤ ds.length ∧ ∃ δ5 M' ad', I (i + 1) δ5 ∧ Pt S.g.K B δ5 σ4 H4 M' ad' ∧ Same (mask M H1) (mask M' H4), fun σ4 H4 q => ⟨ds.length - (i + 1), by omega, rfl, q.1, q.2⟩, fun x H4 y => ?_⟩
    obtain ⟨y1, y2⟩ := it.yld i M' H' x H4 e3 p3.sm.tr y
    have dx := y2 _ hd
    have p4 : Pt S.g.K B δ3 σ' H4 M' ad' := p3.step (.grow p3.sm y1)
    have e4 : Same (mask M H1) (mask M' H4) := e3.trans (same_mask y1)
    obtain ⟨δ4, ⟨g, hg, hgk⟩, hb⟩ := turn i _ δ3 hd hI
    refine tg_of (hg X ok) (hgk B M' ad' σ' H4 x p4 dx _ fun σ5 p5 => ?_)
    intro pins s I5
    refine thn (sds_run hb ok bo p5 pins s I5) fun f s1 q => ?_
    have again : ∀ {σ6 : L2.St} {H6 : Hp}, (∃ δ M6 ad6, (∃ δ5, Weak δ δ5 ∧ I (i + 1) δ5) ∧ Pt S.g.K B δ σ6 H6 M6 ad6 ∧ Pt S.g.K (Bd.here M' H4 ad' δ4) δ σ6 H6 M6 ad6) → i + 1 ≤ ds.length ∧ ∃ δ5 M' ad', I (i + 1) δ5 ∧ Pt S.g.K B δ5 σ6 H6 M' ad' ∧ Same (mask M H1) (mask M' H6) := by
      rintro σ6 H6 ⟨δ6, M6, ad6, ⟨δ7, w7, i7⟩, p6, p6'⟩
      exact ⟨hlt, δ7, M6, ad6, i7, p6.weak w7, e4.trans (p5.view p6')⟩
    cases f with
    | next => obtain ⟨σ6, H6, I6, q⟩ := q; exact ⟨σ6, H6, I6, again q⟩
    | cont => obtain ⟨σ6, H6, I6, q⟩ := q; exact ⟨σ6, H6, I6, again q⟩
    | brk => obtain ⟨σ6, H6, I6, δ6, M6, ad6, c, p6, _⟩ := q; exact ⟨σ6, H6, I6, δ6, c, M6, ad6, p6⟩
    | ret u => exact q
  · have e : i = ds.length := by omega
    subst e
    exact .inl ⟨it.stop M' H' e3, δ3, fin δ3 hI, M', ad', p3⟩
end
end Fb
end
section
namespace Fb
open PySem PySem.Spec PyProof.Rows L2
/-! ### list comprehensions -/
def TIx (X : Cx) (ifs : List Expr) : TT := fun σ H Q => ∀ pins s, Inv X pins σ H s →
  wpAny (model X.prog X.w) X.A (forIn ifs true fun c r => if r = true then do let ok ← isTrue c X.env (eval c X.env); pure (ForInStep.yield ok) else pure (ForInStep.yield r)) (TP X pins σ Q) X.xe s
theorem pts_x {X : Cx} {ifs : List Expr} : PTs X ifs (TIx X ifs) := ⟨fun pins s σ H Q I h => h pins s I⟩
theorem ti_of {X : Cx} {ifs : List Expr} {t : TT} (h : PTs X ifs t) {σ : L2.St} {H : Hp} {Q : Bool → Hp → Prop} (q : t σ H Q) : TIx X ifs σ H Q := fun pins s I => h.run pins s σ H Q I q
theorem ti_mono {X : Cx} {ifs : List Expr} {σ : L2.St} {H : Hp} {Q Q' : Bool → Hp → Prop} (h : TIx X ifs σ H Q) (k : ∀ v H', Q v H' → Q' v H') : TIx X ifs σ H Q' := fun pins s I =>
  thn (h pins s I) fun _ _ ⟨H', I', q⟩ => ⟨H', I', k _ H' q⟩
def EifD (S : Sc) (ifs : List Expr) (δ : List Slot) (Q : Bool → List Slot → Prop) : Prop :=
  ∀ X, S.Ok X → ∀ M ad σ H, Sm S.g.K M H ad δ σ → TIx X ifs σ H fun b H' => ∃ δ', Q b δ' ∧ Stp S.g.K M ad σ δ H δ' H'
def Sc.blk (S : Sc) (scope : Scope) : Sc := ⟨S.g, S.k, S.N, relS scope S.sc, false, fun x => scope.names.lookup x == some .cell⟩
structure TgC (S : Sc) (tg : Expr) (vs : List Nat) (d : D) (δ δ' : List Slot) : Prop where
  len : δ'.length = δ.length
  out : ∀ i : Nat, i ∉ vs → δ'[i]? = δ[i]?
  no : ∀ (i : Nat), i ∈ vs → ∀ s, (δ[i]? = some s → s.own = false) ∧ (δ'[i]? = some s → s.own = false)
  ex : ∃ g : TG, (∀ X, S.Ok X → PG X tg g) ∧ ∀ M ad σ H v, Sm S.g.K M H ad δ σ → Da S.g.K (mask M H) v d → ∀ Q : L2.St → Hp → Prop, (∀ σ2, wipe σ2 vs = wipe σ vs → Sm S.g.K M H ad δ' σ2 → Q σ2 H) → g v (wipe σ vs) H Q
/-- from the block's slots back to the def's -/
structure Bk (vs : List Nat) (δ5 δ6 δ2 : List Slot) : Prop where
  len : δ6.length = δ2.length
  out : ∀ i : Nat, i ∉ vs → δ6[i]? = δ5[i]?
  inn : ∀ i : Nat, i ∈ vs → δ6[i]? = δ2[i]?
section
variable {S : Sc} {δ : List Slot}
theorem eif_nil {Q : Bool → List Slot → Prop} (q : Q true δ) : EifD S [] δ Q := fun X ok M ad σ H sm => ti_of pts_nil ⟨δ, q, .refl sm⟩
theorem eif_one {c : Expr} {Q : Bool → List Slot → Prop} (h : EtD S c δ Q) : EifD S [c] δ Q := fun X ok M ad σ H sm => ti_of (pts_one pt_x) (h X ok M ad σ H sm)
theorem TgC.bk {tg : Expr} {vs : List Nat} {d : D} {δ' : List Slot} (t : TgC S tg vs d δ δ') : Bk vs δ' δ δ := ⟨rfl, fun i h => (t.out i h).symm, fun _ _ => rfl⟩
theorem TgC.shp {tg : Expr} {vs : List Nat} {d : D} {δ' : List Slot} (t : TgC S tg vs d δ δ') : Shp δ δ' := fun i => by
  by_cases h : i ∈ vs
  · by_cases hl : i < δ.length
    · have e1 : δ[i]? = some δ[i] := List.getElem?_eq_getElem hl
      have e2 : δ'[i]? = some (δ'[i]'(by rw [t.len]; exact hl)) := List.getElem?_eq_getElem _
      rw [e1, e2]
      show some (Slot.own _) = some (Slot.own _)
      rw [(t.no i h _).1 e1, (t.no i h _).2 e2]
    · rw [List.getElem?_eq_none (show δ'.length ≤ i by rw [t.len]; omega), List.getElem?_eq_none (show δ.length ≤ i by omega)]
  · rw [t.out i h]
theorem wipe1 {σ : L2.St} {j : Nat} : wipe σ [j] = σ.set j none := rfl
theorem wipe2 {σ : L2.St} {i j : Nat} : wipe σ [i, j] = (σ.set j none).set i none := rfl
theorem tgc_name {x : Str} {pos : Pos} {d : D} {δ' : List Slot} {j : Nat} {s : Slot} (l : LookS S.N δ x j s (.imm d) δ') (w : s.own = false) (hx : S.sc.names.lookup x = some .local) : TgC S (.Name x pos) [j] d δ δ' := by
  have hne : ∀ i : Nat, i ∉ [j] → j ≠ i := fun i h e => h (by simp [e])
  refine ⟨by rw [← l.eq, List.length_set], fun i h => by rw [← l.eq, List.getElem?_set_ne (hne i h)], fun i h t => ?_, gName j, fun X ok => pg_name (by rw [ok.N]; exact ok.nd) (by rw [ok.N]; exact l.name) (loc_of ok (.inl hx)) (fn_or ok (.inr hx)), fun M ad σ H v sm dv Q k => ?_⟩
  · obtain rfl : i = j := by simpa using h
    refine ⟨fun e => ?_, fun e => ?_⟩
    · rw [l.slot] at e; cases e; exact w
    · rw [← l.eq] at e
      have hl : i < δ.length := (List.getElem?_eq_some_iff.mp l.slot).1
      rw [List.getElem?_set_self hl] at e
      cases e; rfl
  · have e : ((σ.set j none).set j (some v)) = σ.set j (some v) := List.set_set ..
    refine k _ ?_ ?_
    · show wipe ((σ.set j none).set j (some v)) [j] = _
      rw [e, wipe1, wipe1, List.set_set]
    · rw [wipe1, e, ← l.eq]
      exact sm.set (s := s) dv
theorem tgc_nameC {x : Str} {pos : Pos} {d : D} {δ' : List Slot} {j : Nat} {s : Slot} (l : LookS S.N δ x j s (.imm d) δ') (w : s.own = false) (hx : S.sc.names.lookup x = some .cell) (hf : S.fc x = true) : TgC S (.Name x pos) [j] d δ δ' := by
  have hne : ∀ i : Nat, i ∉ [j] → j ≠ i := fun i h e => h (by simp [e])
  refine ⟨by rw [← l.eq, List.length_set], fun i h => by rw [← l.eq, List.getElem?_set_ne (hne i h)], fun i h t => ?_, gName j, fun X ok => pg_name (by rw [ok.N]; exact ok.nd) (by rw [ok.N]; exact l.name) (loc_of ok (.inr hx)) (.inl (ok.fc _ hf)), fun M ad σ H v sm dv Q k => ?_⟩
  · obtain rfl : i = j := by simpa using h
    refine ⟨fun e => ?_, fun e => ?_⟩
    · rw [l.slot] at e; cases e; exact w
    · rw [← l.eq] at e
      have hl : i < δ.length := (List.getElem?_eq_some_iff.mp l.slot).1
      rw [List.getElem?_set_self hl] at e
      cases e; rfl
  · have e : ((σ.set j none).set j (some v)) = σ.set j (some v) := List.set_set ..
    refine k _ ?_ ?_
    · show wipe ((σ.set j none).set j (some v)) [j] = _
      rw [e, wipe1, wipe1, List.set_set]
    · rw [wipe1, e, ← l.eq]
      exact sm.set (s := s) dv
theorem tgc_pair {x y : Str} {p1 p2 pos : Pos} {kk : Nat} {d e : D} {δ' δ'' : List Slot} {i j : Nat} {s t : Slot} (l : LookS S.N δ x i s (.imm d) δ') (w : s.own = false) (l' : LookS S.N δ' y j t (.imm e) δ'') (w' : t.own = false) (hij : i ≠ j)
    (hx : S.sc.names.lookup x = some .local) (hy : S.sc.names.lookup y = some .local) : TgC S (.Tuple [.Name x p1, .Name y p2] kk pos) [i, j] (.tuple [d, e]) δ δ'' := by
  have t' : δ[j]? = some t := by
    have q := l'.slot
    rw [← l.eq, List.getElem?_set_ne hij] at q
    exact q
  refine ⟨by rw [← l'.eq, List.length_set, ← l.eq, List.length_set], fun m h => ?_, fun m h u => ?_, gTup S.g.K 2 (gCons (gName i) (gCons (gName j) gNil)), fun X ok => ?_, fun M ad σ H v sm dv Q k => ?_⟩
  · have h1 : i ≠ m := fun e => h (by simp [e])
    have h2 : j ≠ m := fun e => h (by simp [e])
    rw [← l'.eq, List.getElem?_set_ne h2, ← l.eq, List.getElem?_set_ne h1]
  · have hm : m = i ∨ m = j := by simpa using h
    refine ⟨fun q => ?_, fun q => ?_⟩
    · rcases hm with rfl | rfl
      · rw [l.slot] at q; cases q; exact w
      · rw [t'] at q; cases q; exact w'
    · rcases hm with rfl | rfl
      · rw [← l'.eq, List.getElem?_set_ne hij.symm, ← l.eq, List.getElem?_set_self (List.getElem?_eq_some_iff.mp l.slot).1] at q
        cases q; rfl
      · rw [← l'.eq, List.getElem?_set_self (List.getElem?_eq_some_iff.mp l'.slot).1] at q
        cases q; rfl
  · rw [← ok.K]
    exact pg_tup ok.calm (pgs_cons (pg_name (by rw [ok.N]; exact ok.nd) (by rw [ok.N]; exact l.name) (loc_of ok (.inl hx)) (fn_or ok (.inr hx))) (pgs_cons (pg_name (by rw [ok.N]; exact ok.nd) (by rw [ok.N]; exact l'.name) (loc_of ok (.inl hy)) (fn_or ok (.inr hy))) pgs_nil))
  · cases dv with
    | tup h1 a1 =>
      cases a1 with
      | cons d1 a2 =>
        cases a2 with
        | cons d2 a3 =>
          cases a3
          rename_i aa v1 v2
          refine ⟨_, _, rfl, SqT.of (mask_some h1).2, rfl, _, _, rfl, ?_⟩
          refine ⟨_, _, rfl, rfl, ?_⟩
          have e1 : ((((σ.set j none).set i none).set i (some v1)).set j (some v2)) = (σ.set i (some v1)).set j (some v2) := by
            rw [List.set_set, List.set_comm _ _ hij.symm, List.set_set]
          refine k _ ?_ ?_
          · show wipe ((((σ.set j none).set i none).set i (some v1)).set j (some v2)) [i, j] = _
            rw [e1, wipe2, wipe2, List.set_set, List.set_comm _ _ hij, List.set_set]
          · show Sm S.g.K M H ad δ'' ((((σ.set j none).set i none).set i (some v1)).set j (some v2))
            rw [e1, ← l'.eq, ← l.eq]
            exact (sm.set (s := s) d1).set (s := t) d2
theorem Sm.updM {K : PySem.W.Frag} {M ad : List Addr} {H : Hp} {σ : L2.St} {a : Addr} {o : HO} (h : Sm K M H ad δ σ) (ha : a ∈ M) (n : ¬ Ow ad δ a) : Sm K M (upd H a o) ad δ σ := by
  refine ⟨h.len, fun i s e => (h.ok i s e).mono (by rw [mask_upd ha]; exact Same.refl _) fun w u q => ?_, h.inj, fun b z => ?_⟩
  · rw [upd_ne]
    · exact q
    · intro c
      exact n ⟨i, s, e, w, c⟩
  · by_cases c : b = a
    · exact ⟨o, by rw [c, upd_same]⟩
    · obtain ⟨u, q⟩ := h.tr b z
      exact ⟨u, by rw [upd_ne c]; exact q⟩
theorem getD_eq {α : Type} {l l' : List α} {i : Nat} {d : α} (h : l[i]? = l'[i]?) : l.getD i d = l'.getD i d := by
  rw [List.getD_eq_getElem?_getD, List.getD_eq_getElem?_getD, h]
theorem Sm.bk {K : PySem.W.Frag} {M ad : List Addr} {H4 H5 : Hp} {σ σ2 : L2.St} {vs : List Nat} {δ2 δ5 δ6 : List Slot} (h : Sm K M H5 ad δ5 σ2) (h0 : Sm K M H4 ad δ2 σ) (hw : wipe σ2 vs = wipe σ vs) (b : Bk vs δ5 δ6 δ2) (no : ∀ i : Nat, i ∈ vs → ∀ s, δ2[i]? = some s → s.own = false)
    (e : Same (mask M H4) (mask M H5)) : Sm K M H5 ad δ6 σ := by
  have ow : ∀ (i : Nat) s, δ6[i]? = some s → s.own = true → i ∉ vs := fun i s q w hi => by
    rw [b.inn i hi] at q
    rw [no i hi s q] at w; cases w
  refine ⟨by rw [b.len]; exact h0.len, fun i s q => ?_, fun i j s t q1 q2 w1 w2 c => ?_, h.tr⟩
  · by_cases hi : i ∈ vs
    · rw [b.inn i hi] at q
      exact (h0.ok i s q).mono e fun w => by rw [no i hi s q] at w; cases w
    · rw [b.out i hi] at q
      have z := h.ok i s q
      have e1 : σ2.getD i none = σ.getD i none := getD_eq (by rw [← wipe_out (σ := σ2) hi, ← wipe_out (σ := σ) hi, hw])
      rw [e1] at z
      exact z
  · have n1 := ow i s q1 w1
    have n2 := ow j t q2 w2
    rw [b.out i n1] at q1
    rw [b.out j n2] at q2
    exact h.inj i j s t q1 q2 w1 w2 c
/-- the reading of a comprehension -/
theorem lc_read {X : Cx} (ok : S.Ok X) {tg elt : Expr} {ifs : List Expr} {scope : Scope} {vs : List Nat} {wi : TI} {Q : D → List Slot → Prop} {M ad : List Addr} {σ : L2.St} {H : Hp}
    (hk : ∀ M ad σ H, Sm S.g.K M H ad δ σ → ∀ R : It → Hp → Prop, (∀ J H1 δ1 ds, (ds.length ≤ 100000 ∧ ∃ I : Nat → List D → List Slot → Prop, I 0 [] δ1 ∧
      (∀ (i : Nat) d acc δ2, ds[i]? = some d → I i acc δ2 → ∃ δ3, TgC (S.blk scope) tg vs d δ2 δ3 ∧ EifD (S.blk scope) ifs δ3 fun b δ4 =>
        (b = true → EvD (S.blk scope) elt δ4 fun y δ5 => ∃ δ6, Bk vs δ5 δ6 δ2 ∧ I (i + 1) (acc ++ [y]) δ6) ∧ (b = false → ∃ δ6, Bk vs δ4 δ6 δ2 ∧ I (i + 1) acc δ6)) ∧ ∀ acc δ2, I ds.length acc δ2 → Q (.list acc) δ2) →
      Stp S.g.K M ad σ δ H δ1 H1 → ItOk S.g.K M J ds H1 → R J H1) → wi σ H R) (sm : Sm S.g.K M H ad δ σ) {P : VK} (hP : ∀ v H' d δ', Q d δ' → Stp S.g.K M ad σ δ H δ' H' → Da S.g.K (mask M H') v d → P v H') :
    tLc wi (fun v σ H Q => ∀ X', (S.blk scope).Ok X' → TGx X' tg v σ H Q) (fun σ H Q => ∀ X', (S.blk scope).Ok X' → TIx X' ifs σ H Q) (fun σ H Q => ∀ X', (S.blk scope).Ok X' → TEx X' elt σ H Q) vs σ H P := by
  refine hk M ad σ H sm _ fun J H1 δ1 ds ⟨hlen, I, i0, turn, fin⟩ st it Dl hD => ?_
  have nM : Dl ∉ M := st.sm.freshM hD
  have nH : H Dl = none := by
    cases e : H Dl with
    | none => rfl
    | some u =>
      by_cases w : Ow ad δ Dl
      · exact absurd (sm.owM w) nM
      · have := st.keep Dl u e w
        rw [hD] at this; cases this
  have em : mask (Dl :: M) (upd H1 Dl (.lst [])) = mask M H1 := by
    funext b
    by_cases hb : b ∈ M
    · rw [mask_in (List.mem_cons_of_mem _ hb), mask_in hb]
    · by_cases hd : b = Dl
      · subst hd
        rw [mask_in List.mem_cons_self, mask_out hb, hD]
      · rw [mask_out (by simp [hd, hb]), mask_out hb, upd_ne hd]
  have smU : Sm S.g.K (Dl :: M) (upd H1 Dl (.lst [])) ad δ1 σ := by
    refine ⟨st.sm.len, fun i s e => ?_, st.sm.inj, fun a ha => ?_⟩
    · have z := st.sm.ok i s e
      have hne : s.own = true → ad.getD i 0 ≠ Dl := fun w c => nM (by rw [← c]; exact (z.inM w).1)
      cases s with
      | un => trivial
      | imm d => obtain ⟨v, h1, h2⟩ := z; exact ⟨v, h1, by rw [em]; exact h2⟩
      | lst ds => obtain ⟨h1, h2, us, h3, h4⟩ := z; exact ⟨h1, List.mem_cons_of_mem _ h2, us, by rw [upd_ne (hne rfl)]; exact h3, by rw [em]; exact h4⟩
      | dct kvs => obtain ⟨h1, h2, us, h3, h4⟩ := z; exact ⟨h1, List.mem_cons_of_mem _ h2, us, by rw [upd_ne (hne rfl)]; exact h3, by unfold DctRel at h4 ⊢; rw [em]; exact h4⟩
      | pat kvs => obtain ⟨h1, h2, h3, h4, xs, h5, h6⟩ := z; exact ⟨h1, List.mem_cons_of_mem _ h2, h3, h4, xs, by rw [upd_ne (hne rfl)]; exact h5, by unfold PatRel at h6 ⊢; rw [em]; exact h6⟩
    · by_cases c : a = Dl
      · exact ⟨_, by rw [c, upd_same]⟩
      · obtain ⟨u, q⟩ := st.sm.tr a (by simpa [c] using ha)
        exact ⟨u, by rw [upd_ne c]; exact q⟩
  refine ⟨fun i m H' => m = ds.length - i ∧ i ≤ ds.length ∧ ∃ acc us δ2, I i acc δ2 ∧ acc.length ≤ i ∧ Sm S.g.K (Dl :: M) H' ad δ2 σ ∧ H' Dl = some (.lst us) ∧ DaAll S.g.K (mask (Dl :: M) H') us acc ∧ Keep ad δ H H' ∧ Shp δ δ2 ∧ Same (mask M H1) (mask (Dl :: M) H'),
    ⟨ds.length, rfl, Nat.zero_le _, [], [], δ1, i0, Nat.le_refl _, smU, upd_same, .nil, fun a o q n => by rw [upd_ne (ne_of_none q nH)]; exact st.keep a o q n, st.shp, by rw [em]; exact Same.refl _⟩, ?_⟩
  rintro i m H2 ⟨rfl, hi, acc, us, δ2, hI, hacc, sm2, hl2, da2, kp2, sh2, e2⟩
  have nOw : ∀ {δ' : List Slot}, Shp δ δ' → ¬ Ow ad δ' Dl := fun sh o => nM (sm.owM (sh.ow o))
  by_cases hlt : i < ds.length
  · have hd : ds[i]? = some ds[i] := List.getElem?_eq_getElem hlt
    refine .inr ⟨it.go i _ H2 hlt e2, fun H' => i + 1 ≤ ds.length ∧ ∃ acc us δ2, I (i + 1) acc δ2 ∧ acc.length ≤ i + 1 ∧ Sm S.g.K (Dl :: M) H' ad δ2 σ ∧ H' Dl = some (.lst us) ∧ DaAll S.g.K (mask (Dl :: M) H') us acc ∧ Keep ad δ H H' ∧ Shp δ δ2 ∧ Same (mask M H1) (mask (Dl :: M) H'),
      fun H' q => ⟨ds.length - (i + 1), by omega, rfl, q.1, q.2⟩, fun x H4 y => ?_⟩
    obtain ⟨y1, y2⟩ := it.yld i _ H2 x H4 e2 sm2.tr y
    have dx := y2 _ hd
    have sm4 := sm2.grow y1
    obtain ⟨δ3, tc, hif⟩ := turn i _ acc δ2 hd hI
    obtain ⟨g, hg, hgk⟩ := tc.ex
    intro X' ok'
    refine tg_of (hg X' ok') (hgk (Dl :: M) ad σ H4 x sm4 dx _ fun σ2 hw sm5 => ⟨hw, ?_⟩)
    intro X2 ok2
    have no2 : ∀ i : Nat, i ∈ vs → ∀ s, δ2[i]? = some s → s.own = false := fun i hi s => (tc.no i hi s).1
    have kp4 : Keep ad δ H H4 := fun a o q n => y1 a o (kp2 a o q n)
    have e4 : Same (mask M H1) (mask (Dl :: M) H4) := e2.trans (same_mask y1)
    have hl4 : H4 Dl = some (.lst us) := y1 _ _ hl2
    have sh3 : Shp δ δ3 := sh2.trans tc.shp
    -- behind a step from the target's slots
    have keep5 : ∀ {δ5 : List Slot} {H5 : Hp}, Stp S.g.K (Dl :: M) ad σ2 δ3 H4 δ5 H5 → H5 Dl = some (.lst us) ∧ DaAll S.g.K (mask (Dl :: M) H5) us acc ∧ Keep ad δ H H5 ∧ Shp δ δ5 ∧ Same (mask M H1) (mask (Dl :: M) H5) ∧ Same (mask (Dl :: M) H4) (mask (Dl :: M) H5) := fun {δ5 H5} st5 => by
      have s5 := sm5.same st5.keep
      exact ⟨st5.keep _ _ hl4 (nOw sh3), dpAll_mono (fun b u z => s5 b u (same_mask y1 b u z)) _ da2, fun a o q n => st5.keep a o (kp4 a o q n) fun w => n (sh3.ow w), sh3.trans st5.shp, e4.trans s5, s5⟩
    refine ti_mono (hif X2 ok2 (Dl :: M) ad σ2 H4 sm5) fun b H5 ⟨δ4, ⟨q1, q2⟩, st4⟩ => ?_
    cases b with
    | false =>
      rw [if_neg Bool.false_ne_true]
      obtain ⟨δ6, bk, i6⟩ := q2 rfl
      obtain ⟨k1, k2, k3, k4, k5, k6⟩ := keep5 st4
      have sm6 := st4.sm.bk sm4 hw bk no2 k6
      refine ⟨hlt, acc, us, δ6, i6, by omega, sm6, k1, k2, k3, fun j => ?_, k5⟩
      by_cases hj : j ∈ vs
      · rw [bk.inn j hj]; exact sh2 j
      · rw [bk.out j hj]; exact k4 j
    | true =>
      rw [if_pos rfl]
      intro X3 ok3
      refine te_mono (q1 rfl X3 ok3 (Dl :: M) ad σ2 H5 st4.sm) fun yv H6 ⟨yd, δ5, ⟨δ6, bk, i6⟩, st5, dy⟩ => ?_
      have st6 := st4.trans st5
      obtain ⟨k1, k2, k3, k4, k5, k6⟩ := keep5 st6
      have sm6 := st6.sm.bk sm4 hw bk no2 k6
      have sh6 : Shp δ δ6 := fun j => by
        by_cases hj : j ∈ vs
        · rw [bk.inn j hj]; exact sh2 j
        · rw [bk.out j hj]; exact k4 j
      refine ⟨us, k1, by rw [dpAll_len k2, sizeLine_eq]; omega, hlt, acc ++ [yd], us ++ [yv], δ6, i6, by rw [List.length_append, List.length_singleton]; omega, sm6.updM List.mem_cons_self (nOw sh6), upd_same, ?_, fun a o q n => ?_, sh6, ?_⟩
      · rw [mask_upd List.mem_cons_self]
        exact dpAll_append k2 (.cons dy .nil)
      · rw [upd_ne (ne_of_none q nH)]; exact k3 a o q n
      · rw [mask_upd List.mem_cons_self]; exact k5
  · have e : i = ds.length := by omega
    subst e
    refine .inl ⟨it.stop _ H2 e2, hP _ _ (.list acc) δ2 (fin acc δ2 hI) ⟨⟨sm2.len, fun i s e => ?_, sm2.inj, fun a ha => sm2.tr a (List.mem_cons_of_mem _ ha)⟩, kp2, sh2⟩ ?_⟩
    · refine (sm2.ok i s e).sub (fun b hb => List.mem_cons_of_mem _ hb) fun w => ?_
      exact sm.owM (sh2.ow ⟨i, s, e, w, rfl⟩)
    · refine .lst (xs := us) ?_ (dpAll_mono (mask_sub fun b hb => List.mem_cons_of_mem _ hb) _ da2)
      rw [mask_out nM]; exact hl2
theorem blk_ok {X : Cx} (ok : S.Ok X) {scope : Scope} {s : Shared} {H : Hp} {C : Addr} {cl : List (Str × Addr)} {fp : List Addr} : (S.blk scope).Ok (X.blk s H scope (compEnvC scope cl C X.env) fp) where
  prog := ok.prog
  w := ok.w
  K := ok.K
  mg := ok.mg
  base := ok.base
  N := ok.N
  sc := by
    show relS scope X.env.scope = relS scope S.sc
    rw [ok.sc]
  calm := ok.calm
  room := ok.room
  gd := ok.gd
  fn := fun h => by cases h
  xe := rfl
  nd := ok.nd
  fc := fun x h => h
/-- [elt for tg in iter if ..] -/
theorem ev_lc {tg iter elt : Expr} {ifs : List Expr} {scope : Scope} {pos : Pos} {Q : D → List Slot → Prop} (own : List (Str × Nat)) (hb : blkC S.N S.sc scope own = true)
    (h : EiD S tg iter δ fun ds δ1 => ds.length ≤ 100000 ∧ ∃ I : Nat → List D → List Slot → Prop, I 0 [] δ1 ∧
      (∀ (i : Nat) d acc δ2, ds[i]? = some d → I i acc δ2 → ∃ δ3, TgC (S.blk scope) tg (own.map (·.2)) d δ2 δ3 ∧ EifD (S.blk scope) ifs δ3 fun b δ4 =>
        (b = true → EvD (S.blk scope) elt δ4 fun y δ5 => ∃ δ6, Bk (own.map (·.2)) δ5 δ6 δ2 ∧ I (i + 1) (acc ++ [y]) δ6) ∧ (b = false → ∃ δ6, Bk (own.map (·.2)) δ4 δ6 δ2 ∧ I (i + 1) acc δ6)) ∧ ∀ acc δ2, I ds.length acc δ2 → Q (.list acc) δ2)
    (hs : ∀ env x, foldedSetIterable iter env x = pure x := by intro _ _; rfl) : EvD S (.ListComp elt [⟨tg, iter, ifs, 0⟩] scope pos) δ Q := by
  intro X ok M ad σ H sm
  obtain ⟨wi, pi, hk⟩ := h X ok
  refine te_of (pe_lc (own := own) (g := fun v σ H Q => ∀ X', (S.blk scope).Ok X' → TGx X' tg v σ H Q) (tt := fun σ H Q => ∀ X', (S.blk scope).Ok X' → TIx X' ifs σ H Q) (te := fun σ H Q => ∀ X', (S.blk scope).Ok X' → TEx X' elt σ H Q) ok.calm (by rw [ok.N]; exact ok.nd) pi (by rw [ok.N, ok.sc]; exact blkOk_by hb)
    (fun s H0 C cl fp => ⟨fun pins s σ H v u Q I r z => z _ (blk_ok ok) pins s u I r⟩) (fun s H0 C cl fp => ⟨fun pins s σ H Q I z => z _ (blk_ok ok) pins s I⟩) (fun s H0 C cl fp => ⟨fun pins s σ H Q I z => z _ (blk_ok ok) pins s I⟩) (hs _)) ?_
  exact lc_read ok hk sm fun v H' d δ' q st dv => ⟨d, δ', q, st, dv⟩
/-- the same without a trace: a filter and a map -/
theorem ev_lcp {tg iter elt : Expr} {ifs : List Expr} {scope : Scope} {pos : Pos} {Q : D → List Slot → Prop} (own : List (Str × Nat)) (hb : blkC S.N S.sc scope own = true)
    (h : EiD S tg iter δ fun ds δ1 => ds.length ≤ 100000 ∧ ∃ (p : D → Bool) (f : D → D), (∀ d ∈ ds, ∃ δ3, TgC (S.blk scope) tg (own.map (·.2)) d δ1 δ3 ∧ EifD (S.blk scope) ifs δ3 fun b δ4 =>
        (b = p d ∧ δ4 = δ3) ∧ (b = true → EvD (S.blk scope) elt δ4 fun y δ5 => y = f d ∧ δ5 = δ3)) ∧ Q (.list ((ds.filter p).map f)) δ1)
    (hs : ∀ env x, foldedSetIterable iter env x = pure x := by intro _ _; rfl) : EvD S (.ListComp elt [⟨tg, iter, ifs, 0⟩] scope pos) δ Q := by
  refine ev_lc own hb (fun X ok => ?_) hs
  obtain ⟨wi, pi, hk⟩ := h X ok
  refine ⟨wi, pi, fun M ad σ H sm R k => hk M ad σ H sm R fun J H1 δ1 ds ⟨hlen, p, f, turn, fin⟩ st it => k J H1 δ1 ds ⟨hlen, fun i acc δ2 => δ2 = δ1 ∧ acc = ((ds.take i).filter p).map f, ⟨rfl, rfl⟩, ?_, ?_⟩ st it⟩
  · rintro i d acc δ2 hd ⟨rfl, rfl⟩
    obtain ⟨δ3, tc, hif⟩ := turn d (List.mem_of_getElem? hd)
    have tk : ds.take (i + 1) = ds.take i ++ [d] := by rw [List.take_succ, hd]; rfl
    refine ⟨δ3, tc, fun X ok M ad σ H sm => ti_mono (hif X ok M ad σ H sm) fun b H' ⟨δ4, ⟨⟨e1, e2⟩, q⟩, st⟩ => ⟨δ4, ⟨fun hb => ?_, fun hb => ?_⟩, st⟩⟩
    · refine ev_mono (q hb) fun y δ5 ⟨e3, e4⟩ => ⟨_, by rw [e4]; exact tc.bk, rfl, ?_⟩
      rw [tk, List.filter_append, List.map_append, List.filter_cons, if_pos (by rw [← e1]; exact hb), e3]
      rfl
    · refine ⟨_, by rw [e2]; exact tc.bk, rfl, ?_⟩
      rw [tk, List.filter_append, List.map_append, List.filter_cons, if_neg (by rw [← e1, hb]; decide)]
      simp
  · rintro acc δ2 ⟨rfl, rfl⟩
    rw [List.take_length]
    exact fin
/-- y = [..], y a local name, on one line -/
theorem sd_setlc {y : Str} {py spos : Pos} {tg iter elt : Expr} {ifs : List Expr} {scope : Scope} {pos : Pos} {C : Cn} (own : List (Str × Nat)) (hb : blkC S.N S.sc scope own = true) (hk : S.sc.kind = .function) (hy : S.sc.names.lookup y = some .local)
    (hl : (py.line == pos.line) = true) (ha : (scope.names.any fun (n, k) => n == y && (k == .local || k == .cell)) = false) {iy : Nat} (hN : S.N[iy]? = some y)
    (h : EiD S tg iter δ fun ds δ1 => ds.length ≤ 100000 ∧ ∃ I : Nat → List D → List Slot → Prop, I 0 [] δ1 ∧
      (∀ (i : Nat) d acc δ2, ds[i]? = some d → I i acc δ2 → ∃ δ3, TgC (S.blk scope) tg (own.map (·.2)) d δ2 δ3 ∧ EifD (S.blk scope) ifs δ3 fun b δ4 =>
        (b = true → EvD (S.blk scope) elt δ4 fun y δ5 => ∃ δ6, Bk (own.map (·.2)) δ5 δ6 δ2 ∧ I (i + 1) (acc ++ [y]) δ6) ∧ (b = false → ∃ δ6, Bk (own.map (·.2)) δ4 δ6 δ2 ∧ I (i + 1) acc δ6)) ∧
      ∀ acc δ2, I ds.length acc δ2 → ∃ s δ3, LookS S.N δ2 y iy s (.imm (.list acc)) δ3 ∧ s.own = false ∧ C.nx δ3)
    (hs : ∀ env x, foldedSetIterable iter env x = pure x := by intro _ _; rfl) : SD S (.Assign [.Name y py] (.ListComp elt [⟨tg, iter, ifs, 0⟩] scope pos) spos) δ C := by
  intro X ok B bo σ H ⟨M, ad, p⟩
  obtain ⟨wi, pi, hk'⟩ := h X ok
  have hkind : X.env.scope.kind = .function := by rw [ok.sc]; exact hk
  have hyl : X.env.scope.names.lookup y = some .local := by rw [ok.sc]; exact hy
  refine ts_of (ps_setLc (i := iy) (own := own) (g := fun v σ H Q => ∀ X', (S.blk scope).Ok X' → TGx X' tg v σ H Q) (tt := fun σ H Q => ∀ X', (S.blk scope).Ok X' → TIx X' ifs σ H Q) (te := fun σ H Q => ∀ X', (S.blk scope).Ok X' → TEx X' elt σ H Q) ok.calm (by rw [ok.N]; exact ok.nd)
    (by rw [ok.N]; exact hN) hyl (sw_true hkind hyl hl ha) pi (by rw [ok.N, ok.sc]; exact blkOk_by hb)
    (fun s H0 C cl fp => ⟨fun pins s σ H v u Q I r z => z _ (blk_ok ok) pins s u I r⟩) (fun s H0 C cl fp => ⟨fun pins s σ H Q I z => z _ (blk_ok ok) pins s I⟩) (fun s H0 C cl fp => ⟨fun pins s σ H Q I z => z _ (blk_ok ok) pins s I⟩) (hs _)) ?_
  exact lc_read (Q := fun d δ2 => ∃ s δ3, LookS S.N δ2 y iy s (.imm d) δ3 ∧ s.own = false ∧ C.nx δ3) ok hk' p.sm fun v H' d δ' ⟨s, δ3, l, w, q⟩ st dv =>
    ⟨δ3, q, M, ad, by rw [← l.eq]; exact (p.step st).set l.slot w dv⟩
end
end Fb
end
section
namespace Fb
open PySem PySem.Spec PyProof.Rows L2
/-! ### a def by its body -/
/-- behind a def only what was owned may have changed -/
def Rg (δ δ' : List Slot) : Prop := δ'.length = δ.length ∧ ∀ (i : Nat) s, δ[i]? = some s → s.own = false → δ'[i]? = some s
def Fin' (δ δ' δ1 : List Slot) : Prop := ∀ (i : Nat) s, δ[i]? = some s → s.own = true → δ'[i]? = δ1[i]?
/-- the end of a body that is to hand back d -/
def Cn.fin (δ : List Slot) (d : D) (δ' : List Slot) : Cn := { nx := fun δ1 => d = .none ∧ Fin' δ δ' δ1, rt := fun e δ1 => e = d ∧ Fin' δ δ' δ1 }
theorem getElem?_pad {α : Type} {l : List α} {n : Nat} {x y : α} {i : Nat} (h : (l ++ List.replicate n x)[i]? = some y) : l[i]? = some y ∨ (l.length ≤ i ∧ y = x) := by
  by_cases hi : i < l.length
  · rw [List.getElem?_append_left hi] at h; exact .inl h
  · rw [List.getElem?_append_right (by omega), List.getElem?_replicate] at h
    split at h
    · cases h; exact .inr ⟨by omega, rfl⟩
    · cases h
theorem Sm.pad {K : PySem.W.Frag} {M ad : List Addr} {H : Hp} {δ : List Slot} {σ : L2.St} (h : Sm K M H ad δ σ) (n : Nat) : Sm K M H ad (δ ++ List.replicate n .un) (σ ++ List.replicate n none) := by
  have key : ∀ (i : Nat) s, (δ ++ List.replicate n Slot.un)[i]? = some s → s.own = true → δ[i]? = some s := fun i s e w => by
    rcases getElem?_pad e with q | ⟨_, q⟩
    · exact q
    · subst q; cases w
  refine ⟨by rw [List.length_append, List.length_append, List.length_replicate, List.length_replicate, h.len], fun i s e => ?_, fun i j s t a b c d => h.inj i j s t (key i s a c) (key j t b d) c d, h.tr⟩
  rcases getElem?_pad e with q | ⟨_, q⟩
  · have z := h.ok i s q
    have hi : i < σ.length := by rw [h.len]; exact (List.getElem?_eq_some_iff.mp q).1
    rw [getD_eq (List.getElem?_append_left hi)]
    exact z
  · subst q; trivial
/-- a def's own statements: the entry has n arguments -/
def SDn (S : Sc) (n : Nat) (sts : List Stmt) (δ : List Slot) (C : Cn) : Prop :=
  ∀ X, S.Ok X → ∀ B, BdOk B → B.δ0.length = n → ∀ σ H, PtE S.g.K B δ σ H → TSsx X sts (endsOf S.g.K B C) σ H
theorem sdn_of {S : Sc} {n : Nat} {sts : List Stmt} {δ : List Slot} {C : Cn} (h : SDs S sts δ C) : SDn S n sts δ C := fun X ok B bo _ => h X ok B bo
theorem sdn_cons {S : Sc} {n : Nat} {st : Stmt} {rest : List Stmt} {δ : List Slot} {C : Cn} (h : SD S st δ { C with nx := fun δ1 => SDn S n rest δ1 C }) : SDn S n (st :: rest) δ C := by
  intro X ok B bo hn σ H p
  refine tss_of (pss_cons ps_x pss_x) fun pins s I => thn (h X ok B bo σ H p pins s I) fun f s1 q => ?_
  cases f with
  | next => obtain ⟨σ', H', I', δ', q, r⟩ := q; exact ⟨σ', H', I', q X ok B bo hn σ' H' r⟩
  | brk => exact q
  | cont => exact q
  | ret u => exact q
/-- return x, x an owned list of its own -/
theorem sdn_retO {S : Sc} {n : Nat} {δ : List Slot} {C : Cn} {x : Str} {np pos : Pos} {i : Nat} {ds : List D} (l0 : Look S.N δ x i (.lst ds)) (hv : Vis S.sc x) (hi : n ≤ i) (q : C.rt (.list ds) δ)
    (hd : (x == ("__debug__" : Str)) = false := by decide) (hcd : (x == ("__classdict__" : Str)) = false := by decide) : SDn S n [.Return (some (.Name x np)) pos] δ C := by
  intro X ok B bo hn σ H ⟨M, ad, p⟩
  obtain ⟨e1, hM, us, e2, a2⟩ := p.sm.ok i _ l0.slot
  refine tss_of (pss_one (ps_ret (pe_var (i := i) (by rw [ok.N]; exact l0.name) (vis_of ok hv) hd hcd))) ⟨_, slot_some e1, ?_⟩
  have n0 : B.H0 (ad.getD i 0) = none := by
    rcases p.nw _ ⟨i, _, l0.slot, rfl, rfl⟩ with z | ⟨m, t, q1, q2, q3⟩
    · exact z
    · obtain ⟨c1, t', c2, c3⟩ := p.ps m t q1 q2
      have em : m = i := p.sm.inj m i t' _ c2 l0.slot c3 rfl (by rw [c1, q3])
      have := (List.getElem?_eq_some_iff.mp q1).1
      omega
  refine ⟨.list ds, δ, q, .lst (xs := us) ?_ (dpAll_mono (mask_sub p.sub) _ a2), p.fr, fun m t e w => ?_⟩
  · rw [mask_out]
    · exact e2
    · intro c
      obtain ⟨o, ho⟩ := bo.tr _ c
      rw [n0] at ho; cases ho
  · obtain ⟨c1, t', c2, c3⟩ := p.ps m t e w
    have z := p.sm.ok m t' c2
    rw [((p.sm.ok m t' c2).inM c3).2.1, c1] at z
    exact ⟨t', c2, c3, z.sub p.sub fun _ => bo.own m t e w⟩
theorem call_mk {g : Ga} {k : Nat} {x qual : Str} {params : Arguments} {body : List Stmt} {scope : Scope} {f : Addr} {fd : FuncData} {N ps : List Str} {R : Ct} (F : FunD g.K x qual params body scope [] [] f fd) (hmg : g.mg x = some (.ref f)) (hb : Binds g.K fd ps []) (sc : FnScope N ps scope)
    (hl : ∀ δ d δ', R δ d δ' → δ.length = ps.length ∧ Rg δ δ')
    (hbody : ∀ δ d δ', R δ d δ' → SDn ⟨g, k, N, scope, true, fun _ => false⟩ ps.length body (δ ++ List.replicate (N.length - ps.length) .un) (Cn.fin δ d δ')) : CallOk g (k + 1) x R := by
  refine ⟨f, fd, ps, hmg, F.kp, hb, ⟨fun A outer s H args us vs Q δ d δ' M ad hr hg e0 hbd r hR sm hQ => ?_⟩, fun δ d δ' r => (hl δ d δ' r).1⟩
  obtain ⟨oc, od, dV, kV, doc, pm, an, cdv, ct, osl, rfl, lk, hcd, _, _⟩ := F.ex
  obtain ⟨hlen, rg1, rg2⟩ := hl δ d δ' hR
  have lv : vs.length = ps.length := by
    have := sm.len
    rw [List.length_map] at this
    omega
  have KX : g.K.In s.heap := e0.mod.kin.keeps fun b o e => (e0.bs b o e).1
  have lim : s.heap.NoLimit := e0.mod.nolimit.keeps fun b o e => (e0.bs b o e).1
  have hkind : ∀ y ∈ ps.zip us, scope.names.lookup y.1 = some .local ∨ (scope.names.lookup y.1 = some .cell ∧ ((cellsFrom (s.heap.objs.size + 1) scope.names []).lookup y.1).isSome = true) := fun ⟨n, v⟩ hy => by
    rcases sc.par n (List.of_mem_zip hy).1 with q | q
    · exact .inl q
    · exact .inr ⟨q, PySem.W.cellsFrom_some _ _ _ (.inl q)⟩
  refine codeAny_call_function hr.depth (KX _ _ lk) rfl sc.co sc.gen rfl (PySem.W.codeRec_of KX hcd) (hbd _ _ _ _ ?_)
  refine wpAny_newFunctionEnv_cells sc.kind hkind fun env he s1 x1 => ?_
  subst he
  refine ⟨lim.keeps x1.toInCall.keep, codeAny_func ?_⟩
  have I := inv_start (CX := CX0) (E := E0) sc hr.hd e0 lv r x1
  have okX : (Sc.mk g k N scope true (fun _ => false)).Ok (cxOf CX0 g.P g.w g.K g.mg g.base N qual scope f cdv A outer s H E0).nox :=
    ⟨rfl, rfl, rfl, rfl, rfl, rfl, rfl, rfl, hr.deeper _, hg, fun _ _ => rfl, rfl, sc.nd, fun _ h => Bool.noConfusion h⟩
  have hst : L2.start N vs = vs.map some ++ List.replicate (N.length - ps.length) none := by unfold L2.start; rw [lv]
  have smP : Sm g.K M H ad (δ ++ List.replicate (N.length - ps.length) .un) (L2.start N vs) := by rw [hst]; exact sm.pad _
  have p0 : Pt g.K ⟨M, H, ad, δ⟩ (δ ++ List.replicate (N.length - ps.length) .un) (L2.start N vs) H M ad := by
    refine ⟨smP, fun _ z => z, fun _ _ q _ => q, fun i t q w => ⟨rfl, t, ?_, w⟩, fun a ⟨i, t, q, w, e⟩ => .inr ?_, fun _ z => .inl z⟩
    · have q' : δ[i]? = some t := q
      rw [List.getElem?_append_left (List.getElem?_eq_some_iff.mp q').1]; exact q'
    · rcases getElem?_pad q with c | ⟨_, c⟩
      · exact ⟨i, t, c, w, e⟩
      · subst c; cases w
  have bo : BdOk ⟨M, H, ad, δ⟩ := ⟨fun i t q w => sm.owM ⟨i, t, q, w, rfl⟩, sm.tr⟩
  have run := hbody δ d δ' hR _ okX ⟨M, H, ad, δ⟩ bo hlen (L2.start N vs) H ⟨M, ad, p0⟩ [] s1 (I.wish _)
  -- what is wanted behind it
  have last : ∀ {v : V} {H' : Hp} {δ1 : List Slot}, Da g.K (mask M H') v d → Fin' δ δ' δ1 → Keep ad δ H H' → (∀ (i : Nat) t, δ[i]? = some t → t.own = true → ∃ t', δ1[i]? = some t' ∧ t'.own = true ∧ SlotOk g.K M H' (some (.ref (ad.getD i 0))) (ad.getD i 0) t') → Q v H' := fun {v H' δ1} dv fin kp own => by
    have no : ∀ (i : Nat) t, δ'[i]? = some t → ∃ t0, δ[i]? = some t0 ∧ (t0.own = false → t = t0) ∧ (t0.own = true → δ1[i]? = some t ∧ t.own = true ∧ SlotOk g.K M H' (some (.ref (ad.getD i 0))) (ad.getD i 0) t) := fun i t e => by
      have hi : i < δ.length := by rw [← rg1]; exact (List.getElem?_eq_some_iff.mp e).1
      have e0 : δ[i]? = some δ[i] := List.getElem?_eq_getElem hi
      refine ⟨δ[i], e0, fun w => ?_, fun w => ?_⟩
      · have := rg2 i _ e0 w
        rw [e] at this
        exact Option.some.inj this
      · obtain ⟨t', e1, w1, ok⟩ := own i _ e0 w
        have := fin i _ e0 w
        rw [e, e1] at this
        obtain rfl := Option.some.inj this
        exact ⟨e1, w1, ok⟩
    refine hQ v H' dv ⟨⟨by rw [List.length_map]; omega, fun i t e => ?_, fun i j t u a b c e q => ?_, fun a ha => ?_⟩, kp, fun i => ?_⟩
    · obtain ⟨t0, e0, k1, k2⟩ := no i t e
      cases w : t0.own with
      | false =>
        have := k1 w
        subst this
        exact (sm.ok i t e0).mono (sm.same kp) fun z => by rw [w] at z; cases z
      | true =>
        obtain ⟨_, _, ok⟩ := k2 w
        rw [((sm.ok i t0 e0).inM w).2.1]
        exact ok
    · obtain ⟨t0, e0, k1, k2⟩ := no i t a
      obtain ⟨u0, f0, l1, l2⟩ := no j u b
      have w1 : t0.own = true := by
        cases w : t0.own with
        | true => rfl
        | false => rw [k1 w, w] at c; cases c
      have w2 : u0.own = true := by
        cases w : u0.own with
        | true => rfl
        | false => rw [l1 w, w] at e; cases e
      exact sm.inj i j t0 u0 e0 f0 w1 w2 q
    · by_cases w : Ow ad δ a
      · obtain ⟨i, t, q1, q2, q3⟩ := w
        obtain ⟨t', _, w1, ok⟩ := own i t q1 q2
        obtain ⟨_, _, u, hu, _⟩ := ok.inM w1
        rw [← q3]
        exact ⟨u, hu⟩
      · obtain ⟨u, hu⟩ := sm.tr a ha
        exact ⟨u, kp a u hu w⟩
    · by_cases hi : i < δ.length
      · have e0 : δ[i]? = some δ[i] := List.getElem?_eq_getElem hi
        have e1 : δ'[i]? = some (δ'[i]'(by rw [rg1]; exact hi)) := List.getElem?_eq_getElem _
        obtain ⟨t0, f0, k1, k2⟩ := no i _ e1
        rw [e1, f0]
        show some _ = some _
        cases w : t0.own with
        | false => rw [k1 w, w]
        | true => rw [(k2 w).2.1]
      · rw [List.getElem?_eq_none (show δ'.length ≤ i by omega), List.getElem?_eq_none (show δ.length ≤ i by omega)]
  refine wpAny_mono run (fun fl s' hs => ?_) fun e s' z => False.elim z
  cases fl with
  | ret u =>
    obtain ⟨v, σ', H', J, rv, e, δ1, ⟨rfl, fin⟩, dv, kp, own⟩ := hs
    have J' := J.unwish
    exact ⟨v, H', J'.os, J'.bare, J'.base, J'.hok, rv, last dv fin kp own⟩
  | next =>
    obtain ⟨σ', H', J, δ1, ⟨rfl, fin⟩, M1, ad1, p1⟩ := hs
    have J' := J.unwish
    refine ⟨.non, H', J'.os, J'.bare, J'.base, J'.hok, rfl, last .non fin p1.fr fun i t q w => ?_⟩
    obtain ⟨e1, t', e2, w2⟩ := p1.ps i t q w
    have z := p1.sm.ok i t' e2
    rw [((p1.sm.ok i t' e2).inM w2).2.1, e1] at z
    exact ⟨t', e2, w2, z.sub p1.sub fun _ => bo.own i t q w⟩
  | brk => obtain ⟨_, _, _, _, q, _⟩ := hs; exact False.elim q
  | cont => obtain ⟨_, _, _, _, q, _⟩ := hs; exact False.elim q
/-! ### a call that hands on one owned thing -/
section
variable {S : Sc} {δ : List Slot}
theorem paired_split {α β : Type} {F : α → β → Prop} : ∀ {l : List α} {a b : List β}, Paired F l (a ++ b) → ∃ l1 l2, l = l1 ++ l2 ∧ Paired F l1 a ∧ Paired F l2 b
  | l, [], b, h => ⟨[], l, rfl, .nil, h⟩
  | _, x :: a, b, h => by
    cases h with
    | cons h1 h2 =>
      obtain ⟨l1, l2, rfl, p1, p2⟩ := paired_split h2
      exact ⟨_ :: l1, l2, rfl, .cons h1 p1, p2⟩
theorem get_mid {α : Type} {a b : List α} {x y : α} {i : Nat} (h : (a ++ x :: b)[i]? = some y) : (i = a.length ∧ y = x) ∨ (a ++ x :: b)[i]? = some y ∧ i ≠ a.length := by
  by_cases hi : i = a.length
  · subst hi
    rw [List.getElem?_append_right (Nat.le_refl _), Nat.sub_self] at h
    exact .inl ⟨rfl, (Option.some.inj h).symm⟩
  · exact .inr ⟨h, hi⟩
theorem mid_imm {ds1 ds2 : List D} {s t : Slot} {i : Nat} (h : (ds1.map Slot.imm ++ s :: ds2.map Slot.imm)[i]? = some t) (w : t.own = true) : i = ds1.length ∧ t = s := by
  rcases get_mid h with ⟨e, q⟩ | ⟨q, ne⟩
  · rw [List.length_map] at e; exact ⟨e, q⟩
  · rw [List.length_map] at ne
    exfalso
    by_cases hi : i < ds1.length
    · rw [List.getElem?_append_left (by rw [List.length_map]; exact hi), List.getElem?_map] at q
      cases e : ds1[i]? with
      | none => rw [e] at q; cases q
      | some d => rw [e] at q; cases q; cases w
    · rw [List.getElem?_append_right (by rw [List.length_map]; omega), List.length_map] at q
      obtain ⟨m, hm⟩ : ∃ m, i - ds1.length = m + 1 := ⟨i - ds1.length - 1, by omega⟩
      rw [hm, List.getElem?_cons_succ, List.getElem?_map] at q
      cases e : ds2[m]? with
      | none => rw [e] at q; cases q
      | some d => rw [e] at q; cases q; cases w
theorem ev_callO {x : Str} {j : Nat} {R : Ct} {e : Expr} {es : List Expr} {p pos : Pos} {Q : D → List Slot → Prop} (c : CallOk S.g j x R) (hj : j ≤ S.k) (hg : S.sc.names.lookup x = some .globalImplicit)
    (h : EaD S (e :: es) δ fun as δ1 => ∃ (ds1 ds2 : List D) (i : Nat) (s s' : Slot) (d : D), as = ds1.map .imm ++ .own i :: ds2.map .imm ∧ δ1[i]? = some s ∧ s.own = true ∧ s'.own = true ∧ R (ds1.map .imm ++ s :: ds2.map .imm) d (ds1.map .imm ++ s' :: ds2.map .imm) ∧ Q d (δ1.set i s')) (hdb : (x == ("__debug__" : Str)) = false := by decide)
    (he : ∀ env, starEach (e :: es) env = (false, eval e env) :: starEach es env := by intro _; rfl) (hpl : ∀ env, (backTo pos (starEach es env)).any (·.1) = false := by intro _; rfl) : EvD S (.Call (.Name x p) (e :: es) [] pos) δ Q := by
  intro X ok M ad σ H sm
  obtain ⟨f, fd, ps, h1, h2, h3, h4, h5⟩ := c.ex
  intro pins s I
  refine wpAny_Call_Name_kw (ld_glob I (gl_of ok hg) (mg_of' ok h1) ?_ hdb)
  refine PySem.W.callWith_K (h₀ := X.base) I.ok.mod.kin (by rw [ok.K]; exact h2) (thn (h X ok M ad σ H sm pos pins s I) fun us s1 ⟨vs, H1, I1, r1, as, δ1, ⟨ds1, ds2, i, t, t', d, ea, hi, w, w', hR, q⟩, st, ra⟩ => ⟨I1.kIn, ?_⟩) (he _) (hpl _)
  subst ea
  obtain ⟨vs1, vs2, rfl, ra1, ra2⟩ := paired_split ra
  cases ra2 with
  | cons ra2 ra3 =>
    rename_i v vs3
    obtain ⟨rfl, _⟩ := ra2
    have a1 := ar_imms ra1
    have a3 := ar_imms ra3
    have l1 := dpAll_len a1
    have l3 := dpAll_len a3
    have z := st.sm.ok i t hi
    have em := z.inM w
    -- the callee's addresses
    have hadg : (List.replicate ds1.length (0 : Addr) ++ [ad.getD i 0]).getD ds1.length 0 = ad.getD i 0 := by
      rw [List.getD_eq_getElem?_getD, List.getElem?_append_right (by rw [List.length_replicate]; exact Nat.le_refl _), List.length_replicate, Nat.sub_self]
      rfl
    have hv : ((vs1 ++ V.ref (ad.getD i 0) :: vs3).map some).getD ds1.length none = some (V.ref (ad.getD i 0)) := by
      rw [List.getD_eq_getElem?_getD, List.getElem?_map, List.getElem?_append_right (by omega), l1, Nat.sub_self]
      rfl
    have smc : Sm S.g.K M H1 (List.replicate ds1.length (0 : Addr) ++ [ad.getD i 0]) (ds1.map .imm ++ t :: ds2.map .imm) ((vs1 ++ V.ref (ad.getD i 0) :: vs3).map some) := by
      refine ⟨by simp [l1, l3], fun m u e => ?_, fun m n u v' e1 e2 w1 w2 _ => by rw [(mid_imm e1 w1).1, (mid_imm e2 w2).1], st.sm.tr⟩
      rcases get_mid e with ⟨em', q'⟩ | ⟨q', ne⟩
      · rw [List.length_map] at em'
        subst em' q'
        rw [hadg, hv]
        rw [em.2.1] at z
        exact z
      · rw [List.length_map] at ne
        have full : DaAll S.g.K (mask M H1) (vs1 ++ vs3) (ds1 ++ ds2) := dpAll_append a1 a3
        by_cases hm : m < ds1.length
        · rw [List.getElem?_append_left (by rw [List.length_map]; exact hm), List.getElem?_map] at q'
          cases e3 : ds1[m]? with
          | none => rw [e3] at q'; cases q'
          | some d' =>
            rw [e3] at q'; cases q'
            obtain ⟨v', e4, e5⟩ := dpAll_get a1 e3
            refine ⟨v', ?_, e5⟩
            rw [List.getD_eq_getElem?_getD, List.getElem?_map, List.getElem?_append_left (by omega), e4]
            rfl
        · rw [List.getElem?_append_right (by rw [List.length_map]; omega), List.length_map] at q'
          obtain ⟨m', hm'⟩ : ∃ m', m - ds1.length = m' + 1 := ⟨m - ds1.length - 1, by omega⟩
          rw [hm', List.getElem?_cons_succ, List.getElem?_map] at q'
          cases e3 : ds2[m']? with
          | none => rw [e3] at q'; cases q'
          | some d' =>
            rw [e3] at q'; cases q'
            obtain ⟨v', e4, e5⟩ := dpAll_get a3 e3
            refine ⟨v', ?_, e5⟩
            rw [List.getD_eq_getElem?_getD, List.getElem?_map, List.getElem?_append_right (by omega), l1, hm', List.getElem?_cons_succ, e4]
            rfl
    have owc : ∀ {a : Addr}, Ow (List.replicate ds1.length (0 : Addr) ++ [ad.getD i 0]) (ds1.map .imm ++ t :: ds2.map .imm) a → a = ad.getD i 0 := fun {a} ⟨m, u, e, w1, e2⟩ => by
      rw [← e2, (mid_imm e w1).1, hadg]
    refine run_fnC ok h4 h3 hj hR (h5 _ _ _ hR) smc (fun v H2 dv st2 => ?_) pins s1 σ us I1 r1
    -- back
    have kp2 : Keep ad δ1 H1 H2 := fun a o e n => st2.keep a o e fun c => n (by rw [owc c]; exact ⟨i, t, hi, w, rfl⟩)
    have zt : SlotOk S.g.K M H2 (some (.ref (ad.getD i 0))) (ad.getD i 0) t' := by
      have e : (ds1.map Slot.imm ++ t' :: ds2.map Slot.imm)[ds1.length]? = some t' := by
        rw [List.getElem?_append_right (by rw [List.length_map]; exact Nat.le_refl _), List.length_map, Nat.sub_self]; rfl
      have z2 := st2.sm.ok ds1.length t' e
      rw [hadg, hv] at z2
      exact z2
    have hil : i < δ1.length := (List.getElem?_eq_some_iff.mp hi).1
    have sm2 : Sm S.g.K M H2 ad (δ1.set i t') σ := by
      have key : ∀ (m : Nat) u, (δ1.set i t')[m]? = some u → (m = i ∧ u = t') ∨ (m ≠ i ∧ δ1[m]? = some u) := fun m u e => by
        by_cases c : m = i
        · subst c
          rw [List.getElem?_set_self hil] at e
          exact .inl ⟨rfl, (Option.some.inj e).symm⟩
        · rw [List.getElem?_set_ne (Ne.symm c)] at e
          exact .inr ⟨c, e⟩
      have own0 : ∀ (m : Nat) u, (δ1.set i t')[m]? = some u → u.own = true → ∃ u0, δ1[m]? = some u0 ∧ u0.own = true := fun m u e w1 => by
        rcases key m u e with ⟨c, c2⟩ | ⟨c, c2⟩
        · subst c; exact ⟨t, hi, w⟩
        · exact ⟨u, c2, w1⟩
      refine ⟨by rw [List.length_set]; exact st.sm.len, fun m u e => ?_, fun m n u u' a b c d q => ?_, st2.sm.tr⟩
      · rcases key m u e with ⟨c, c2⟩ | ⟨c, c2⟩
        · subst c c2
          rw [em.2.1]
          exact zt
        · refine (st.sm.ok m u c2).mono (st.sm.same kp2) fun w1 o e2 => ?_
          refine st2.keep _ o e2 fun c3 => ?_
          have := owc c3
          exact c (st.sm.inj m i u t c2 hi w1 w this)
      · obtain ⟨u0, a0, w0⟩ := own0 m u a c
        obtain ⟨u1, b0, w1⟩ := own0 n u' b d
        exact st.sm.inj m n u0 u1 a0 b0 w0 w1 q
    refine ⟨d, δ1.set i t', q, st.trans ⟨sm2, kp2, fun m => ?_⟩, dv⟩
    by_cases c : m = i
    · subst c
      rw [List.getElem?_set_self hil, hi]
      show some _ = some _
      rw [w, w']
    · rw [List.getElem?_set_ne (Ne.symm c)]
end
end Fb
end
section
namespace Fb
open PySem PySem.Spec PyProof.Rows L2
/-! ### owned lists -/
section
variable {K : PySem.W.Frag} {B : Bd} {δ : List Slot} {σ : L2.St} {H : Hp} {M ad : List Addr}
/-- the object of an owned slot is changed -/
theorem Sm.put {i : Nat} {s s' : Slot} {o : HO} (h : Sm K M H ad δ σ) (hi : δ[i]? = some s) (w : s.own = true) (w' : s'.own = true) (z : SlotOk K M (upd H (ad.getD i 0) o) (some (.ref (ad.getD i 0))) (ad.getD i 0) s') : Stp K M ad σ δ H (δ.set i s') (upd H (ad.getD i 0) o) := by
  have hil : i < δ.length := (List.getElem?_eq_some_iff.mp hi).1
  have em := (h.ok i s hi).inM w
  have key : ∀ (m : Nat) u, (δ.set i s')[m]? = some u → (m = i ∧ u = s') ∨ (m ≠ i ∧ δ[m]? = some u) := fun m u e => by
    by_cases c : m = i
    · subst c
      rw [List.getElem?_set_self hil] at e
      exact .inl ⟨rfl, (Option.some.inj e).symm⟩
    · rw [List.getElem?_set_ne (Ne.symm c)] at e
      exact .inr ⟨c, e⟩
  have own0 : ∀ (m : Nat) u, (δ.set i s')[m]? = some u → u.own = true → ∃ u0, δ[m]? = some u0 ∧ u0.own = true := fun m u e w1 => by
    rcases key m u e with ⟨c, c2⟩ | ⟨c, c2⟩
    · subst c; exact ⟨s, hi, w⟩
    · exact ⟨u, c2, w1⟩
  refine ⟨⟨by rw [List.length_set]; exact h.len, fun m u e => ?_, fun m n u u' a b c d q => ?_, fun a ha => ?_⟩, fun a u e n => ?_, fun m => ?_⟩
  · rcases key m u e with ⟨c, c2⟩ | ⟨c, c2⟩
    · subst c c2
      rw [em.2.1]; exact z
    · refine (h.ok m u c2).mono (by rw [mask_upd em.1]; exact Same.refl _) fun w1 x e2 => ?_
      rw [upd_ne]
      · exact e2
      · intro c3
        exact c (h.inj m i u s c2 hi w1 w c3)
  · obtain ⟨u0, a0, w0⟩ := own0 m u a c
    obtain ⟨u1, b0, w1⟩ := own0 n u' b d
    exact h.inj m n u0 u1 a0 b0 w0 w1 q
  · by_cases c : a = ad.getD i 0
    · exact ⟨o, by rw [c, upd_same]⟩
    · obtain ⟨u, q⟩ := h.tr a ha
      exact ⟨u, by rw [upd_ne c]; exact q⟩
  · rw [upd_ne]
    · exact e
    · intro c
      exact n ⟨i, s, hi, w, c.symm⟩
  · by_cases c : m = i
    · subst c
      rw [List.getElem?_set_self hil, hi]
      show some _ = some _
      rw [w, w']
    · rw [List.getElem?_set_ne (Ne.symm c)]
/-- addresses with a new one at i -/
def adSet (ad : List Addr) (n i : Nat) (p : Addr) : List Addr := (List.range n).map fun j => if j = i then p else ad.getD j 0
theorem adSet_get {ad : List Addr} {n i j : Nat} {p : Addr} (h : j < n) : (adSet ad n i p).getD j 0 = if j = i then p else ad.getD j 0 := by
  unfold adSet
  rw [List.getD_eq_getElem?_getD, List.getElem?_map, List.getElem?_range h]
  rfl
/-- a new owned thing is stored at i -/
theorem Pt.own {i : Nat} {s s' : Slot} {p : Addr} {o : HO} (bo : BdOk B) (pt : Pt K B δ σ H M ad) (hi : δ[i]? = some s) (w : s.own = false) (w' : s'.own = true) (hp : H p = none)
    (z : mask (p :: M) (upd H p o) = mask M H → SlotOk K (p :: M) (upd H p o) (some (.ref p)) p s') : PtE K B (δ.set i s') (σ.set i (some (.ref p))) (upd H p o) := by
  have hil : i < δ.length := (List.getElem?_eq_some_iff.mp hi).1
  have nM : p ∉ M := pt.sm.freshM hp
  have em : mask (p :: M) (upd H p o) = mask M H := by
    funext b
    by_cases hb : b ∈ M
    · rw [mask_in (List.mem_cons_of_mem _ hb), mask_in hb]
    · by_cases hd : b = p
      · subst hd
        rw [mask_in List.mem_cons_self, mask_out hb, hp]
      · rw [mask_out (by simp [hd, hb]), mask_out hb, upd_ne hd]
  have key : ∀ (m : Nat) u, (δ.set i s')[m]? = some u → (m = i ∧ u = s') ∨ (m ≠ i ∧ δ[m]? = some u) := fun m u e => by
    by_cases c : m = i
    · subst c
      rw [List.getElem?_set_self hil] at e
      exact .inl ⟨rfl, (Option.some.inj e).symm⟩
    · rw [List.getElem?_set_ne (Ne.symm c)] at e
      exact .inr ⟨c, e⟩
  have lt : ∀ {m : Nat} {u : Slot}, (δ.set i s')[m]? = some u → m < δ.length := fun {m u} e => by
    have := (List.getElem?_eq_some_iff.mp e).1
    rwa [List.length_set] at this
  have adI : (adSet ad δ.length i p).getD i 0 = p := by rw [adSet_get hil, if_pos rfl]
  have adO : ∀ {m : Nat}, m < δ.length → m ≠ i → (adSet ad δ.length i p).getD m 0 = ad.getD m 0 := fun {m} h c => by rw [adSet_get h, if_neg c]
  have pH0 : B.H0 p = none := by
    cases e : B.H0 p with
    | none => rfl
    | some u =>
      by_cases c : Ow B.ad0 B.δ0 p
      · obtain ⟨k, t, q1, q2, q3⟩ := c
        exact absurd (pt.sub p (by rw [← q3]; exact bo.own k t q1 q2)) nM
      · have := pt.fr p u e c
        rw [hp] at this; cases this
  have sH : Same H (upd H p o) := same_new hp
  refine ⟨p :: M, adSet ad δ.length i p, ⟨by rw [List.length_set, List.length_set]; exact pt.sm.len, fun m u e => ?_, fun m n u u' a b c d q => ?_, fun a ha => ?_⟩, fun a ha => List.mem_cons_of_mem _ (pt.sub a ha), fun a u e n => sH a u (pt.fr a u e n), fun m t e x => ?_, fun a ⟨m, u, e, x, q⟩ => ?_, fun a ha => ?_⟩
  · rcases key m u e with ⟨c, c2⟩ | ⟨c, c2⟩
    · subst c c2
      rw [adI, List.getD_eq_getElem?_getD, List.getElem?_set_self (by rw [pt.sm.len]; exact hil)]
      exact z em
    · rw [adO (lt e) c, List.getD_eq_getElem?_getD, List.getElem?_set_ne (Ne.symm c), ← List.getD_eq_getElem?_getD]
      have y := pt.sm.ok m u c2
      have hne : u.own = true → ad.getD m 0 ≠ p := fun x c3 => nM (by rw [← c3]; exact (y.inM x).1)
      cases u with
      | un => trivial
      | imm d => obtain ⟨v, h1, h2⟩ := y; exact ⟨v, h1, by rw [em]; exact h2⟩
      | lst ds => obtain ⟨h1, h2, us, h3, h4⟩ := y; exact ⟨h1, List.mem_cons_of_mem _ h2, us, sH _ _ h3, by rw [em]; exact h4⟩
      | dct kvs => obtain ⟨h1, h2, us, h3, h4⟩ := y; exact ⟨h1, List.mem_cons_of_mem _ h2, us, sH _ _ h3, by unfold DctRel at h4 ⊢; rw [em]; exact h4⟩
      | pat kvs => obtain ⟨h1, h2, h3, h4, xs, h5, h6⟩ := y; exact ⟨h1, List.mem_cons_of_mem _ h2, h3, h4, xs, sH _ _ h5, by unfold PatRel at h6 ⊢; rw [em]; exact h6⟩
  · rcases key m u a with ⟨c1, c2⟩ | ⟨c1, c2⟩
    · rcases key n u' b with ⟨d1, d2⟩ | ⟨d1, d2⟩
      · rw [c1, d1]
      · rw [c1, adI, adO (lt b) d1] at q
        exact absurd (by rw [q]; exact ((pt.sm.ok n u' d2).inM d).1) nM
    · rcases key n u' b with ⟨d1, d2⟩ | ⟨d1, d2⟩
      · rw [d1, adI, adO (lt a) c1] at q
        exact absurd (by rw [← q]; exact ((pt.sm.ok m u c2).inM c).1) nM
      · rw [adO (lt a) c1, adO (lt b) d1] at q
        exact pt.sm.inj m n u u' c2 d2 c d q
  · by_cases c : a = p
    · exact ⟨o, by rw [c, upd_same]⟩
    · obtain ⟨u, q⟩ := pt.sm.tr a (by simpa [c] using ha)
      exact ⟨u, sH a u q⟩
  · obtain ⟨e1, t', e2, w2⟩ := pt.ps m t e x
    have c : m ≠ i := fun c => by
      subst c
      rw [hi] at e2
      cases e2
      rw [w] at w2; cases w2
    have hm : m < δ.length := (List.getElem?_eq_some_iff.mp e2).1
    exact ⟨by rw [adO hm c]; exact e1, t', by rw [List.getElem?_set_ne (Ne.symm c)]; exact e2, w2⟩
  · rcases key m u e with ⟨c, c2⟩ | ⟨c, c2⟩
    · subst c
      rw [adI] at q
      subst q
      exact .inl pH0
    · rw [adO (lt e) c] at q
      exact pt.nw a ⟨m, u, c2, x, q⟩
  · rcases List.mem_cons.mp ha with c | c
    · subst c; exact .inr pH0
    · exact pt.fm a c
end
section
variable {S : Sc} {δ : List Slot} {C : Cn}
/-- x = [..], the list x's own -/
theorem sd_newL {x : Str} {pos' lp pos : Pos} {es : List Expr} (h : EaD S es δ fun as δ1 => ∃ ds, as = ds.map .imm ∧ ds.length ≤ 1000 ∧ ∃ i s δ2, LookS S.N δ1 x i s (.lst ds) δ2 ∧ s.own = false ∧ C.nx δ2) (hx : Loc S.sc x) (ht : S.top = true ∨ S.sc.names.lookup x = some .local) :
    SD S (.Assign [.Name x pos'] (.List es lp) pos) δ C := by
  intro X ok B bo σ H ⟨M, ad, p⟩
  intro pins s I
  refine wpAny_Assign_Name (thn ((te_of (pe_lst pa_x) (ta_mono (h X ok M ad σ H p.sm) fun vs H1 ⟨as, δ1, ⟨ds, ea, l, i, sl, δ2, lk, w, q⟩, st, r⟩ => ?_) : TEx X (.List es lp) σ H (fun v H' => ∃ i p δ2, v = .ref p ∧ S.N[i]? = some x ∧ C.nx δ2 ∧ PtE S.g.K B δ2 (σ.set i (some v)) H')) pins s I) fun u s1 ⟨v, H1, I1, r1, i, a, δ2, ev, hN, q, pe⟩ => ?_) (by rfl)
  · subst ea
    have a := ar_imms r
    refine ⟨by rw [dpAll_len a, sizeLine_eq]; omega, fun n hn => ⟨i, n, δ2, rfl, lk.name, q, ?_⟩⟩
    rw [← lk.eq]
    exact (p.step st).own bo lk.slot w rfl hn fun em => ⟨rfl, List.mem_cons_self, vs, upd_same, by rw [em]; exact a⟩
  · exact store_ok I1 (by rw [ok.N]; exact ok.nd) (by rw [ok.N]; exact hN) (loc_of ok hx) r1 (fun s2 I2 => ⟨_, H1, I2, δ2, q, pe⟩) (fn_or ok ht)
theorem LookS.look {N : List Str} {δ δ' : List Slot} {x : Str} {i : Nat} {s s' : Slot} (h : LookS N δ x i s s' δ') : Look N δ x i s := by
  induction h with
  | here => exact .here
  | there _ ih => exact .there ih
/-- x.append(e) -/
theorem sd_app {x : Str} {e : Expr} {np ap cp pos : Pos} {i : Nat} {ds0 : List D} (l0 : Look S.N δ x i (.lst ds0)) (hv : Vis S.sc x) (h : EvD S e δ fun d δ1 => ∃ ds δ2, LookS S.N δ1 x i (.lst ds) (.lst (ds ++ [d])) δ2 ∧ ds.length ≤ 100000 ∧ C.nx δ2)
    (hd : (x == ("__debug__" : Str)) = false := by decide) (hcd : (x == ("__classdict__" : Str)) = false := by decide) (hs : ∀ env, starEach [e] env = (false, eval e env) :: starEach [] env := by intro _; rfl)
    (hline : (ap.endLine == cp.line) = true := by rfl) (hfew : ∀ env, ((backTo cp (starEach [e] env)).all (fun x => !x.1) && (backToKw cp (keywordEach [] env)).all (fun x => x.1.isSome) && decide (([e] : List Expr).length + ([] : List Keyword).length + (if ([] : List Keyword).isEmpty then 0 else 1) < 30)) = true := by intro _; rfl) :
    SD S (.Expr (.Call (.Attribute (.Name x np) "append" ap) [e] [] cp) pos) δ C := by
  intro X ok B bo σ H ⟨M, ad, p⟩
  have z0 := p.sm.ok i _ l0.slot
  obtain ⟨e1, hM, us0, e2, _⟩ := z0
  refine ts_of (ps_expr (pe_bm PySem.F.plainAttrs_list PySem.F.slot_list_append PySem.F.type_list_append mt_append (pe_var (i := i) (by rw [ok.N]; exact l0.name) (vis_of ok hv) hd hcd) (pa_cons pe_x pa_nil (hs _)) rfl (hfew _) hline (hs _) rfl) rfl) ?_
  refine ⟨_, slot_some e1, .inl ⟨rfl, _, SqL.of e2⟩, ?_⟩
  refine te_mono (h X ok M ad σ H p.sm) fun v H1 ⟨d, δ1, ⟨ds, δ2, lk, hl, q⟩, st, dv⟩ => ?_
  obtain ⟨e3, hM3, us, e4, a4⟩ := st.sm.ok i _ lk.slot
  refine ⟨_, us, v, rfl, rfl, e4, by rw [dpAll_len a4, sizeLine_eq]; omega, δ2, q, M, ad, ?_⟩
  rw [← lk.eq]
  refine (p.step st).step (st.sm.put lk.slot rfl rfl ⟨rfl, hM3, us ++ [v], upd_same, ?_⟩)
  rw [mask_upd hM3]
  exact dpAll_append a4 (.cons dv .nil)
/-- x[k] = e, x an owned list -/
theorem sd_setO {x : Str} {k e : Expr} {np sp pos : Pos} (h : EvD S e δ fun d δ1 => ∃ i ds0, Look S.N δ1 x i (.lst ds0) ∧ EvD S k δ1 fun y δ2 => ∃ (m : Int) (j : Nat) (ds : List D) (δ3 : List Slot), y = .int m ∧ LookS S.N δ2 x i (.lst ds) (.lst (ds.set j d)) δ3 ∧ ixN ds.length m = some j ∧ C.nx δ3) (hv : Vis S.sc x)
    (hd : (x == ("__debug__" : Str)) = false := by decide) (hcd : (x == ("__classdict__" : Str)) = false := by decide) (hs : ∀ env, swapsWithSole [.Subscript (.Name x np) k sp] e pos.line env = pure false := by intro _; rfl) (hw : ∀ env, swappedStores [.Subscript (.Name x np) k sp] e env = pure none := by intro _; rfl)
    (ha : ∀ env v, assign (.Subscript (.Name x np) k sp) env v = (do
      let ov ← holding [v] (eval (.Name x np) env)
      let iv ← holding [v, ov] (eval k env)
      standAt sp
      holding [v, ov, iv] (setItem ov iv v)
      release [v, ov, iv] []) := by intro _ _; rfl) (h1 : ∀ env, (assignEach [.Subscript (.Name x np) k sp] env).map (·.2) = [assign (.Subscript (.Name x np) k sp) env] := by intro _; rfl) :
    SD S (.Assign [.Subscript (.Name x np) k sp] e pos) δ C := by
  intro X ok B bo σ H ⟨M, ad, p⟩
  let tv : TE := fun σ H Q => ∃ i, X.N[i]? = some x ∧ tVar i σ H Q
  have ptv : PE X (.Name x np) tv := ⟨fun pins s σ H Q I ⟨i, hN, q⟩ => (pe_var (i := i) hN (vis_of ok hv) hd hcd).run pins s σ H Q I q⟩
  refine ts_of (ps_asg (g := gSub tv (TEx X k) rSetL) pe_x (pg_sub ptv pe_x set_list (ha _)) (hs _) (hw _) (h1 _)) ?_
  refine te_mono (h X ok M ad σ H p.sm) fun v H1 ⟨d, δ1, ⟨i, ds0, l0, q1⟩, st, dv⟩ => ?_
  obtain ⟨e1, hM, us0, e2, _⟩ := st.sm.ok i _ l0.slot
  refine ⟨i, by rw [ok.N]; exact l0.name, _, slot_some e1, ?_⟩
  refine te_mono (q1 X ok M ad σ H1 st.sm) fun w H2 ⟨y, δ2, ⟨m, j, ds, δ3, ey, lk, hix, q⟩, st2, dw⟩ => ?_
  subst ey
  cases dw
  obtain ⟨e3, hM3, us, e4, a4⟩ := st2.sm.ok i _ lk.slot
  have l4 := dpAll_len a4
  refine ⟨_, us, m, j, rfl, rfl, e4, by rw [l4]; exact hix, δ3, q, M, ad, ?_⟩
  rw [← lk.eq]
  refine (p.step (st.trans st2)).step (st2.sm.put lk.slot rfl rfl ⟨rfl, hM3, us.set j v, upd_same, ?_⟩)
  rw [mask_upd hM3]
  exact dpAll_set j a4 (dp_mono (st.sm.same st2.keep) _ dv)
/-- x[b], x an owned list -/
theorem ev_ixO {x : Str} {b : Expr} {np pos : Pos} {i : Nat} {ds0 : List D} {Q : D → List Slot → Prop} (l0 : Look S.N δ x i (.lst ds0)) (hv : Vis S.sc x) (h : EvD S b δ fun y δ1 => ∃ (m : Int) (ds : List D) (z : D), y = .int m ∧ Look S.N δ1 x i (.lst ds) ∧ atI ds m = some z ∧ Q z δ1) (hs : PlainIx b)
    (hd : (x == ("__debug__" : Str)) = false := by decide) (hcd : (x == ("__classdict__" : Str)) = false := by decide) : EvD S (.Subscript (.Name x np) b pos) δ Q := by
  intro X ok M ad σ H sm
  obtain ⟨e1, hM, us0, e2, _⟩ := sm.ok i _ l0.slot
  refine te_of (pe_ix ix_list (pe_var (i := i) (by rw [ok.N]; exact l0.name) (vis_of ok hv) hd hcd) pe_x hs) ⟨_, slot_some e1, ?_⟩
  refine te_mono (h X ok M ad σ H sm) fun v H1 ⟨y, δ1, ⟨m, ds, z, ey, lk, ha, q⟩, st, dv⟩ => ?_
  subst ey
  cases dv
  obtain ⟨e3, hM3, us, e4, a4⟩ := st.sm.ok i _ lk.slot
  obtain ⟨t, e5, d5⟩ := atI_da a4 ha
  exact ⟨_, us, m, t, rfl, rfl, SqL.of e4, e5, z, δ1, q, st, d5⟩
/-- tuple(x), x an owned list -/
theorem ev_tupO {x : Str} {np p pos : Pos} {i : Nat} {ds : List D} {Q : D → List Slot → Prop} (l0 : Look S.N δ x i (.lst ds)) (hv : Vis S.sc x) (hg : S.sc.names.lookup ("tuple" : Str) = some .globalImplicit) (hm : S.g.mg "tuple" = none) (q : Q (.tuple ds) δ)
    (hd : (x == ("__debug__" : Str)) = false := by decide) (hcd : (x == ("__classdict__" : Str)) = false := by decide) : EvD S (.Call (.Name "tuple" p) [.Name x np] [] pos) δ Q := by
  intro X ok M ad σ H sm
  obtain ⟨e1, hM, us, e2, a2⟩ := sm.ok i _ l0.slot
  refine te_of (pe_callTy call_tuple_of (gl_of ok hg) (mg_of' ok hm) (by decide +kernel) (pa_cons (pe_var (i := i) (by rw [ok.N]; exact l0.name) (vis_of ok hv) hd hcd) pa_nil rfl)) ⟨_, slot_some e1, _, us, rfl, .inl ⟨SqL.of e2, fun n hn => ?_⟩⟩
  obtain ⟨e, d⟩ := new_tup sm.tr hn a2
  exact ⟨_, δ, q, .grow sm e, d⟩
/-- len(x), x an owned list -/
theorem ev_lenO {x : Str} {np p pos : Pos} {i : Nat} {ds : List D} {Q : D → List Slot → Prop} (l0 : Look S.N δ x i (.lst ds)) (hv : Vis S.sc x) (hg : S.sc.names.lookup ("len" : Str) = some .globalImplicit) (hm : S.g.mg "len" = none) (q : Q (.int ds.length) δ)
    (hd : (x == ("__debug__" : Str)) = false := by decide) (hcd : (x == ("__classdict__" : Str)) = false := by decide) : EvD S (.Call (.Name "len" p) [.Name x np] [] pos) δ Q := by
  intro X ok M ad σ H sm
  obtain ⟨e1, hM, us, e2, a2⟩ := sm.ok i _ l0.slot
  refine te_of (pe_callB call_len_seq (gl_of ok hg) (mg_of' ok hm) (by decide +kernel) (pa_cons (pe_var (i := i) (by rw [ok.N]; exact l0.name) (vis_of ok hv) hd hcd) pa_nil rfl)) ⟨_, slot_some e1, _, us, rfl, .inl (SqL.of e2), ⟨_, δ, q, .refl sm, by rw [dpAll_len a2]; exact .int _⟩⟩
/-- sorted(x), x an owned list of ints -/
theorem ev_sortedO {x : Str} {np p pos : Pos} {i : Nat} {ns ms : List Int} {Q : D → List Slot → Prop} (l0 : Look S.N δ x i (.lst (ns.map .int))) (hv : Vis S.sc x) (hg : S.sc.names.lookup ("sorted" : Str) = some .globalImplicit) (hm : S.g.mg "sorted" = none) (h64 : ns.length < 64)
    (hs : ∀ zs : List Int, zs.Perm ns → zs.Pairwise (· ≤ ·) → zs = ms) (q : Q (lI ms) δ)
    (hd : (x == ("__debug__" : Str)) = false := by decide) (hcd : (x == ("__classdict__" : Str)) = false := by decide) : EvD S (.Call (.Name "sorted" p) [.Name x np] [] pos) δ Q := by
  intro X ok M ad σ H sm
  obtain ⟨e1, hM, us, e2, a2⟩ := sm.ok i _ l0.slot
  rw [dpAll_ints a2] at e2
  refine te_of (pe_callB cr_sorted (gl_of ok hg) (mg_of' ok hm) (by decide +kernel) (pa_cons (pe_var (i := i) (by rw [ok.N]; exact l0.name) (vis_of ok hv) hd hcd) pa_nil rfl)) ⟨_, slot_some e1, _, ns, rfl, SqL.of e2, h64, fun zs n pm pw hn => ?_⟩
  have e := hs zs pm pw
  subst e
  obtain ⟨e, d⟩ := new_lst sm.tr hn (ints_dpAll zs)
  exact ⟨_, δ, q, .grow sm e, d⟩
/-! ### an owned list looked at as data -/
/-- data without addresses -/
def scalD : D → Bool
  | .none => true
  | .bool _ => true
  | .int _ => true
  | .str _ => true
  | _ => false
theorem scal_any {K : PySem.W.Frag} {H H' : Hp} {v : V} {d : D} (h : Da K H v d) (s : scalD d = true) : Da K H' v d := by
  cases h with
  | non => exact .non
  | bl b => exact .bl b
  | int i => exact .int i
  | str x => exact .str x
  | lst _ _ => cases s
  | tup _ _ => cases s
  | scr _ _ _ => cases s
  | raw _ => cases s
/-- the owned are looked at as data (or not at all) -/
inductive Frz : List Slot → List Slot → Prop
  | nil : Frz [] []
  | same {s : Slot} {a b : List Slot} (w : s.own = false) : Frz a b → Frz (s :: a) (s :: b)
  | lst {ds : List D} {a b : List Slot} : Frz a b → Frz (.lst ds :: a) (.imm (.list ds) :: b)
  | un {s : Slot} {a b : List Slot} : Frz a b → Frz (s :: a) (.un :: b)
theorem Frz.len {a b : List Slot} (f : Frz a b) : a.length = b.length := by
  induction f with
  | nil => rfl
  | same _ _ ih => simp [ih]
  | lst _ ih => simp [ih]
  | un _ ih => simp [ih]
theorem Frz.get {a b : List Slot} (f : Frz a b) : ∀ {i : Nat} {t : Slot}, b[i]? = some t → t.own = false ∧ ∃ s, a[i]? = some s ∧ (t = s ∨ t = .un ∨ ∃ ds, s = .lst ds ∧ t = .imm (.list ds)) := by
  induction f with
  | nil => intro i t e; simp at e
  | same w _ ih =>
    intro i t e
    cases i with
    | zero => simp at e; subst e; exact ⟨w, _, rfl, .inl rfl⟩
    | succ i => simpa using ih (by simpa using e)
  | lst _ ih =>
    intro i t e
    cases i with
    | zero => simp at e; subst e; exact ⟨rfl, _, rfl, .inr (.inr ⟨_, rfl, rfl⟩)⟩
    | succ i => simpa using ih (by simpa using e)
  | un _ ih =>
    intro i t e
    cases i with
    | zero => simp at e; subst e; exact ⟨rfl, _, rfl, .inr (.inl rfl)⟩
    | succ i => simpa using ih (by simpa using e)
theorem mask_nil {H : Hp} : mask [] H = H := by funext a; exact mask_out (by simp)
theorem Sm.frz {K : PySem.W.Frag} {M ad : List Addr} {H : Hp} {σ : L2.St} {δf : List Slot} (h : Sm K M H ad δ σ) (f : Frz δ δf) : Sm K [] H ad δf σ := by
  refine ⟨by rw [h.len, f.len], fun i t e => ?_, fun i j s t a b c d q => ?_, fun a ha => by simp at ha⟩
  · obtain ⟨w, s, e2, r⟩ := f.get e
    have y := h.ok i s e2
    rcases r with r | r | ⟨ds, r, r2⟩
    · subst r
      cases t with
      | un => trivial
      | imm d => obtain ⟨v, h1, h2⟩ := y; exact ⟨v, h1, by rw [mask_nil]; exact dp_mono mask_le _ h2⟩
      | lst ds => cases w
      | dct kvs => cases w
      | pat kvs => cases w
    · subst r; trivial
    · subst r r2
      obtain ⟨h1, h2, us, h3, h4⟩ := y
      exact ⟨_, h1, by rw [mask_nil]; exact .lst h3 (dpAll_mono mask_le _ h4)⟩
  · have := (f.get a).1
    rw [this] at c; cases c
theorem Frz.keep {K : PySem.W.Frag} {M ad : List Addr} {H H' : Hp} {σ : L2.St} {δf δ1 : List Slot} (f : Frz δ δf) (st : Stp K M ad σ δf H δ1 H') : Same H H' := fun a o e => st.keep a o e fun ⟨i, s, e2, w, _⟩ => by
  rw [(f.get e2).1] at w; cases w
theorem ev_frz {e : Expr} {Q : D → List Slot → Prop} {δf : List Slot} (f : Frz δ δf) (h : EvD S e δf fun d _ => scalD d = true ∧ Q d δ) : EvD S e δ Q := by
  intro X ok M ad σ H sm
  exact te_mono (h X ok [] ad σ H (sm.frz f)) fun v H' ⟨d, δ1, ⟨s, q⟩, st, dv⟩ => ⟨d, δ, q, .grow sm (f.keep st), scal_any dv s⟩
theorem et_frz {e : Expr} {Q : Bool → List Slot → Prop} {δf : List Slot} (f : Frz δ δf) (h : EtD S e δf fun d _ => Q d δ) : EtD S e δ Q := by
  intro X ok M ad σ H sm
  exact tt_mono (h X ok [] ad σ H (sm.frz f)) fun v H' ⟨δ1, q, st⟩ => ⟨δ, q, .grow sm (f.keep st)⟩
theorem ew_frz {e : Expr} {Q : Bool → List Slot → Prop} {δf : List Slot} (f : Frz δ δf) (h : EwD S e δf fun d _ => Q d δ) : EwD S e δ Q := by
  intro X ok M ad σ H sm
  exact tw_mono (h X ok [] ad σ H (sm.frz f)) fun v H' ⟨δ1, q, st⟩ => ⟨δ, q, .grow sm (f.keep st)⟩
/-- a in x, x an owned list -/
theorem et_cmpO {x : Str} {a : Expr} {op : CmpOp} {np pos : Pos} {i : Nat} {ds0 : List D} {Q : Bool → List Slot → Prop} (l0 : Look S.N δ x i (.lst ds0)) (hv : Vis S.sc x)
    (h : EvD S a δ fun y δ1 => ∃ ds z, Look S.N δ1 x i (.lst ds) ∧ OpD S (compareOp op) y (.list ds) (.bool z) ∧ Q z δ1) (hm : behindInMarks op (.Name x np) = false)
    (hd : (x == ("__debug__" : Str)) = false := by decide) (hcd : (x == ("__classdict__" : Str)) = false := by decide) : EtD S (.Compare a [op] [.Name x np] pos) δ Q := by
  intro X ok M ad σ H sm
  refine tt_of (pt_cmpR opR_x pe_x (pe_var (i := i) (by rw [ok.N]; exact l0.name) (vis_of ok hv) hd hcd) hm) (te_mono (h X ok M ad σ H sm) fun v H1 ⟨y, δ1, ⟨ds, z, lk, o, q⟩, st, d1⟩ => ?_)
  obtain ⟨e1, hM, us, e2, a2⟩ := st.sm.ok i _ lk.slot
  refine ⟨_, slot_some e1, ?_⟩
  intro pins s σ' v' u' I rx ry
  have dl : Da S.g.K (mask [] H1) (.ref (ad.getD i 0)) (.list ds) := by rw [mask_nil]; exact .lst e2 (dpAll_mono mask_le _ a2)
  have dy : Da S.g.K (mask [] H1) v y := by rw [mask_nil]; exact dp_mono mask_le _ d1
  refine thn (o X ok [] H1 v _ (fun a ha => by simp at ha) dy dl pins s σ' v' u' I rx ry) fun r s' ⟨t, H3, I3, r3, e3, d3⟩ => ?_
  cases d3
  exact ⟨_, H3, I3, r3, z, rfl, δ1, q, st.trans (.grow st.sm e3)⟩
end
end Fb
end
section
namespace Fb
open PySem PySem.Spec PyProof.Rows L2
def top (i : Nat) : Stmt := PySem.Challenge.pw_firstbreak_k30_spoilt_plans.main.body.getD i (.Pass ⟨0, 0, 0, 0⟩)
abbrev s_ancestors : Stmt := top 4
abbrev s_testable : Stmt := top 6
abbrev s_classes : Stmt := top 7
abbrev s_broken_by : Stmt := top 8
abbrev s_tests : Stmt := top 9
abbrev s_patterns : Stmt := top 12
abbrev s_choices_of : Stmt := top 13
abbrev s_heads_of : Stmt := top 14
abbrev s_useful_makes : Stmt := top 15
abbrev s_rounds_that_do : Stmt := top 16
abbrev s_class_of : Stmt := top 18
abbrev s_plan_for : Stmt := top 19
abbrev s_round_plan : Stmt := top 20
abbrev s_rounds_of : Stmt := top 21
abbrev s_is_integer : Stmt := top 22
abbrev s_are_makes : Stmt := top 23
abbrev s_is_plain_row : Stmt := top 24
abbrev s_holds : Stmt := top 25
abbrev s_judge_rounds : Stmt := top 26
abbrev s_law_cell : Stmt := top 28
abbrev s_law_digits : Stmt := top 29
abbrev s_law_draw : Stmt := top 30
abbrev s_law_pick : Stmt := top 31
abbrev s_law_parents : Stmt := top 32
abbrev s_law_history : Stmt := top 33
abbrev s_law_above : Stmt := top 34
abbrev s_law_breaks : Stmt := top 35
abbrev s_law_skips : Stmt := top 36
abbrev s_law_classes : Stmt := top 37
abbrev s_law_is_int : Stmt := top 38
abbrev s_law_holds : Stmt := top 39
abbrev s_law_spoilt_rows : Stmt := top 40
abbrev s_law_spoilt : Stmt := top 41
abbrev s_law_agrees : Stmt := top 42
abbrev s_law_round_makes : Stmt := top 43
abbrev s_law_built : Stmt := top 44
abbrev s_law : Stmt := top 45
def d_ancestors : He.DefD := ⟨("ancestors", none), "ancestors", "ancestors", defArgs s_ancestors, defBody s_ancestors, defScope s_ancestors, [], []⟩
def d_testable : He.DefD := ⟨("testable", none), "testable", "testable", defArgs s_testable, defBody s_testable, defScope s_testable, [], []⟩
def d_classes : He.DefD := ⟨("classes", none), "classes", "classes", defArgs s_classes, defBody s_classes, defScope s_classes, [], []⟩
def d_broken_by : He.DefD := ⟨("broken_by", none), "broken_by", "broken_by", defArgs s_broken_by, defBody s_broken_by, defScope s_broken_by, [], []⟩
def d_tests : He.DefD := ⟨("tests", none), "tests", "tests", defArgs s_tests, defBody s_tests, defScope s_tests, [], []⟩
def d_patterns : He.DefD := ⟨("patterns", none), "patterns", "patterns", defArgs s_patterns, defBody s_patterns, defScope s_patterns, [], []⟩
def d_choices_of : He.DefD := ⟨("choices_of", none), "choices_of", "choices_of", defArgs s_choices_of, defBody s_choices_of, defScope s_choices_of, [], []⟩
def d_heads_of : He.DefD := ⟨("heads_of", none), "heads_of", "heads_of", defArgs s_heads_of, defBody s_heads_of, defScope s_heads_of, [], []⟩
def d_useful_makes : He.DefD := ⟨("useful_makes", none), "useful_makes", "useful_makes", defArgs s_useful_makes, defBody s_useful_makes, defScope s_useful_makes, [], []⟩
def d_rounds_that_do : He.DefD := ⟨("rounds_that_do", none), "rounds_that_do", "rounds_that_do", defArgs s_rounds_that_do, defBody s_rounds_that_do, defScope s_rounds_that_do, [], []⟩
def d_class_of : He.DefD := ⟨("class_of", none), "class_of", "class_of", defArgs s_class_of, defBody s_class_of, defScope s_class_of, [], []⟩
def d_plan_for : He.DefD := ⟨("plan_for", none), "plan_for", "plan_for", defArgs s_plan_for, defBody s_plan_for, defScope s_plan_for, [], []⟩
def d_round_plan : He.DefD := ⟨("round_plan", none), "round_plan", "round_plan", defArgs s_round_plan, defBody s_round_plan, defScope s_round_plan, [], []⟩
def d_rounds_of : He.DefD := ⟨("rounds_of", none), "rounds_of", "rounds_of", defArgs s_rounds_of, defBody s_rounds_of, defScope s_rounds_of, [], []⟩
def d_is_integer : He.DefD := ⟨("is_integer", none), "is_integer", "is_integer", defArgs s_is_integer, defBody s_is_integer, defScope s_is_integer, [], []⟩
def d_are_makes : He.DefD := ⟨("are_makes", none), "are_makes", "are_makes", defArgs s_are_makes, defBody s_are_makes, defScope s_are_makes, [], []⟩
def d_is_plain_row : He.DefD := ⟨("is_plain_row", none), "is_plain_row", "is_plain_row", defArgs s_is_plain_row, defBody s_is_plain_row, defScope s_is_plain_row, [], []⟩
def d_holds : He.DefD := ⟨("holds", none), "holds", "holds", defArgs s_holds, defBody s_holds, defScope s_holds, [], []⟩
def d_judge_rounds : He.DefD := ⟨("judge_rounds", none), "judge_rounds", "judge_rounds", defArgs s_judge_rounds, defBody s_judge_rounds, defScope s_judge_rounds, [], []⟩
def d_law_cell : He.DefD := ⟨("_law_cell", none), "_law_cell", "_law_cell", defArgs s_law_cell, defBody s_law_cell, defScope s_law_cell, [], []⟩
def d_law_digits : He.DefD := ⟨("_law_digits", none), "_law_digits", "_law_digits", defArgs s_law_digits, defBody s_law_digits, defScope s_law_digits, [], []⟩
def d_law_draw : He.DefD := ⟨("_law_draw", none), "_law_draw", "_law_draw", defArgs s_law_draw, defBody s_law_draw, defScope s_law_draw, [], []⟩
def d_law_pick : He.DefD := ⟨("_law_pick", none), "_law_pick", "_law_pick", defArgs s_law_pick, defBody s_law_pick, defScope s_law_pick, [], []⟩
def d_law_parents : He.DefD := ⟨("_law_parents", none), "_law_parents", "_law_parents", defArgs s_law_parents, defBody s_law_parents, defScope s_law_parents, [], []⟩
def d_law_history : He.DefD := ⟨("_law_history", none), "_law_history", "_law_history", defArgs s_law_history, defBody s_law_history, defScope s_law_history, [], []⟩
def d_law_above : He.DefD := ⟨("_law_above", none), "_law_above", "_law_above", defArgs s_law_above, defBody s_law_above, defScope s_law_above, [], []⟩
def d_law_breaks : He.DefD := ⟨("_law_breaks", none), "_law_breaks", "_law_breaks", defArgs s_law_breaks, defBody s_law_breaks, defScope s_law_breaks, [], []⟩
def d_law_skips : He.DefD := ⟨("_law_skips", none), "_law_skips", "_law_skips", defArgs s_law_skips, defBody s_law_skips, defScope s_law_skips, [], []⟩
def d_law_classes : He.DefD := ⟨("_law_classes", none), "_law_classes", "_law_classes", defArgs s_law_classes, defBody s_law_classes, defScope s_law_classes, [], []⟩
def d_law_is_int : He.DefD := ⟨("_law_is_int", none), "_law_is_int", "_law_is_int", defArgs s_law_is_int, defBody s_law_is_int, defScope s_law_is_int, [], []⟩
def d_law_holds : He.DefD := ⟨("_law_holds", none), "_law_holds", "_law_holds", defArgs s_law_holds, defBody s_law_holds, defScope s_law_holds, [], []⟩
def d_law_spoilt_rows : He.DefD := ⟨("_law_spoilt_rows", none), "_law_spoilt_rows", "_law_spoilt_rows", defArgs s_law_spoilt_rows, defBody s_law_spoilt_rows, defScope s_law_spoilt_rows, [], []⟩
def d_law_spoilt : He.DefD := ⟨("_law_spoilt", none), "_law_spoilt", "_law_spoilt", defArgs s_law_spoilt, defBody s_law_spoilt, defScope s_law_spoilt, [], []⟩
def d_law_agrees : He.DefD := ⟨("_law_agrees", none), "_law_agrees", "_law_agrees", defArgs s_law_agrees, defBody s_law_agrees, defScope s_law_agrees, [], []⟩
def d_law_round_makes : He.DefD := ⟨("_law_round_makes", none), "_law_round_makes", "_law_round_makes", defArgs s_law_round_makes, defBody s_law_round_makes, defScope s_law_round_makes, [], []⟩
def d_law_built : He.DefD := ⟨("_law_built", none), "_law_built", "_law_built", defArgs s_law_built, defBody s_law_built, defScope s_law_built, [], []⟩
def d_law : He.DefD := ⟨("law", none), "law", "law", defArgs s_law, defBody s_law, defScope s_law, [], []⟩
def fn : List He.DefD := ([d_ancestors, d_testable, d_classes, d_broken_by, d_tests, d_patterns, d_choices_of, d_heads_of, d_useful_makes, d_rounds_that_do, d_class_of, d_plan_for, d_round_plan, d_rounds_of] : List He.DefD) ++ ([d_is_integer, d_are_makes, d_is_plain_row, d_holds, d_judge_rounds, d_law_cell, d_law_digits, d_law_draw, d_law_pick, d_law_parents, d_law_history, d_law_above, d_law_breaks, d_law_skips] : List He.DefD) ++ ([d_law_classes, d_law_is_int, d_law_holds, d_law_spoilt_rows, d_law_spoilt, d_law_agrees, d_law_round_makes, d_law_built, d_law] : List He.DefD)
def fa : List He.Fa := ([.glo "ancestors", .glo "testable", .glo "classes", .glo "broken_by", .glo "tests", .glo "patterns", .glo "choices_of", .glo "heads_of", .glo "useful_makes", .glo "rounds_that_do", .glo "class_of", .glo "plan_for", .glo "round_plan", .glo "rounds_of"] : List He.Fa) ++ ([.glo "is_integer", .glo "are_makes", .glo "is_plain_row", .glo "holds", .glo "judge_rounds", .glo "_law_cell", .glo "_law_digits", .glo "_law_draw", .glo "_law_pick", .glo "_law_parents", .glo "_law_history", .glo "_law_above", .glo "_law_breaks", .glo "_law_skips"] : List He.Fa) ++ ([.glo "_law_classes", .glo "_law_is_int", .glo "_law_holds", .glo "_law_spoilt_rows", .glo "_law_spoilt", .glo "_law_agrees", .glo "_law_round_makes", .glo "_law_built", .glo "law", .free "len", .free "range", .free "tuple", .free "sorted", .free "list"] : List He.Fa) ++ ([.free "set", .free "min", .free "max", .free "isinstance", .free "int", .free "bool", .free "repr", .free "zip", .int "MOST_CLASSES" 10] : List He.Fa)
abbrev R : PySem.W.OpenRow := PySem.W.OpenLaw.row PySem.Challenge.rw_firstbreak_k30_spoilt_plans
abbrev hk : PySem.W.Hook := He.hookD 4 fa fn
def ob (s : PySem.W.SharedT) : He.AlD := He.obsDG 4 fa fn (HandSHeadRun.getT s)
theorem ob_eq (s : PySem.W.SharedT) : ob s = hk.obs s.abs := He.obsDG_eq (HandSHeadRun.getT_eq s)
def loose : List PySem.Str := (["BreakError", "TooGreat", "ancestors", "testable", "classes", "broken_by", "tests", "MOST_CLASSES", "patterns", "choices_of", "heads_of", "useful_makes", "rounds_that_do", "class_of"] : List PySem.Str) ++ (["plan_for", "round_plan", "rounds_of", "is_integer", "are_makes", "is_plain_row", "holds", "judge_rounds", "_law_cell", "_law_digits", "_law_draw", "_law_pick", "_law_parents", "_law_history"] : List PySem.Str) ++ (["_law_above", "_law_breaks", "_law_skips", "_law_classes", "_law_is_int", "_law_holds", "_law_spoilt_rows", "_law_spoilt", "_law_agrees", "_law_round_makes", "_law_built"] : List PySem.Str)
theorem run (w : World) : HandSHeadRun.RunEq R (PySem.W.view R.prog [45]) hk ob 2000 loose w := by
  intro os
  kernel_rfl
end Fb
end
section
namespace Fb
open PySem PySem.Spec PyProof.Rows L2
/-! ### the names that are given -/
def bnames : List Str := ["range", "len", "tuple", "sorted", "list", "int", "max", "min", "isinstance", "set", "repr", "zip", "bool"]
/-- the def at i, under its name -/
structure Fd (g : Ga) (x : Str) (i : Nat) (ps : List Str) : Prop where
  ex : ∃ f fd, FunD g.K x x (defArgs (top i)) (defBody (top i)) (defScope (top i)) [] [] f fd ∧ g.mg x = some (.ref f) ∧ Binds g.K fd ps []
structure Wb (g : Ga) : Prop where
  bi : ∀ x, bnames.contains x = true → g.mg x = none
  mc : ∃ u, g.mg "MOST_CLASSES" = some u ∧ RelV (.int 10) u
theorem Wb.no {g : Ga} (h : Wb g) {x : Str} (e : bnames.contains x = true) : g.mg x = none := h.bi x e
/-- the statement walk of a def gives its contract -/
theorem mk_call {g : Ga} {k i : Nat} {x : Str} {N ps : List Str} {R : Ct} (F : Fd g x i ps) (sc : FnScope N ps (defScope (top i)))
    (hl : ∀ δ d δ', R δ d δ' → δ.length = ps.length ∧ Rg δ δ')
    (hbody : ∀ δ d δ', R δ d δ' → SDn ⟨g, k, N, defScope (top i), true, fun _ => false⟩ ps.length (defBody (top i)) (δ ++ List.replicate (N.length - ps.length) .un) (Cn.fin δ d δ')) : CallOk g (k + 1) x R := by
  obtain ⟨f, fd, h1, h2, h3⟩ := F.ex
  exact call_mk h1 h2 h3 sc hl hbody
/-- a pure contract: data in, data out -/
def PureC (n : Nat) (R : List D → D → Prop) : Ct := fun δ d δ' => ∃ ds, ds.length = n ∧ δ = ds.map .imm ∧ δ' = δ ∧ R ds d
theorem Rg.refl (δ : List Slot) : Rg δ δ := ⟨rfl, fun _ _ h _ => h⟩
theorem fin_refl_imm {ds : List D} {δ1 : List Slot} : Fin' (ds.map .imm) (ds.map .imm) δ1 := fun i s h w => by
  rw [List.getElem?_map] at h
  cases e : ds[i]? with
  | none => rw [e] at h; cases h
  | some d => rw [e] at h; cases h; cases w
theorem sdn_mono {S : Sc} {n : Nat} {st : List Stmt} {δ : List Slot} {C C' : Cn} (h : SDn S n st δ C) (h1 : ∀ δ, C.nx δ → C'.nx δ) (h2 : ∀ d δ, C.rt d δ → C'.rt d δ) (h3 : ∀ δ, C.bk δ → C'.bk δ) (h4 : ∀ δ, C.ct δ → C'.ct δ) : SDn S n st δ C' := by
  intro X ok B bo hn σ H p pins s I
  refine thn (h X ok B bo hn σ H p pins s I) fun f s1 q => ?_
  cases f with
  | next => obtain ⟨σ', H', I', δ', q, r⟩ := q; exact ⟨σ', H', I', δ', h1 _ q, r⟩
  | brk => obtain ⟨σ', H', I', δ', q, r⟩ := q; exact ⟨σ', H', I', δ', h3 _ q, r⟩
  | cont => obtain ⟨σ', H', I', δ', q, r⟩ := q; exact ⟨σ', H', I', δ', h4 _ q, r⟩
  | ret u => obtain ⟨v, σ', H', I', rv, d, δ', q, r⟩ := q; exact ⟨v, σ', H', I', rv, d, δ', h2 _ _ q, r⟩
abbrev retC (d : D) : Cn := { nx := fun _ => d = .none, rt := fun e _ => e = d }
theorem mk_pure {g : Ga} {k i : Nat} {x : Str} {N ps : List Str} {R : List D → D → Prop} (F : Fd g x i ps) (sc : FnScope N ps (defScope (top i)))
    (hbody : ∀ ds d, ds.length = ps.length → R ds d → SDn ⟨g, k, N, defScope (top i), true, fun _ => false⟩ ps.length (defBody (top i)) (ds.map .imm ++ List.replicate (N.length - ps.length) .un) (retC d)) : CallOk g (k + 1) x (PureC ps.length R) := by
  refine mk_call F sc (fun δ d δ' ⟨ds, h1, h2, h3, _⟩ => ⟨by rw [h2, List.length_map, h1], by rw [h3]; exact Rg.refl _⟩) fun δ d δ' ⟨ds, h1, h2, h3, h4⟩ => ?_
  subst h2 h3
  exact sdn_mono (hbody ds d h1 h4) (fun _ q => ⟨q, fin_refl_imm⟩) (fun _ _ q => ⟨q, fin_refl_imm⟩) (fun _ q => q) (fun _ q => q)
end Fb
namespace Fb
open PySem PySem.Spec PyProof.Rows L2
/-! ### arguments that are all data -/
def EaI (S : Sc) (es : List Expr) (δ : List Slot) (Q : List D → List Slot → Prop) : Prop := EaD S es δ fun as δ1 => ∃ ds, as = ds.map .imm ∧ Q ds δ1
section
variable {S : Sc} {δ : List Slot} {C : Cn}
theorem ai_nil {Q : List D → List Slot → Prop} (q : Q [] δ) : EaI S [] δ Q := ea_nil ⟨[], rfl, q⟩
theorem ai_cons {e : Expr} {es : List Expr} {Q : List D → List Slot → Prop} (h : EvD S e δ fun d δ1 => EaI S es δ1 fun ds δ2 => Q (d :: ds) δ2)
    (hs : ∀ env, starEach (e :: es) env = (false, eval e env) :: starEach es env := by intro _; rfl) : EaI S (e :: es) δ Q :=
  ea_cons (ev_mono h fun d δ1 q => ea_mono q fun as δ2 ⟨ds, e, q⟩ => ⟨d :: ds, by rw [e]; rfl, q⟩) hs
theorem i_tup {es : List Expr} {k : Nat} {pos : Pos} {Q : D → List Slot → Prop} (h : EaI S es δ fun ds δ1 => ds.length ≤ 1000 ∧ Q (.tuple ds) δ1) : EvD S (.Tuple es k pos) δ Q := ev_tup h
theorem i_lst {es : List Expr} {pos : Pos} {Q : D → List Slot → Prop} (h : EaI S es δ fun ds δ1 => ds.length ≤ 1000 ∧ Q (.list ds) δ1) : EvD S (.List es pos) δ Q := ev_lst h
theorem i_newL {x : Str} {pos' lp pos : Pos} {es : List Expr} (h : EaI S es δ fun ds δ1 => ds.length ≤ 1000 ∧ ∃ i s δ2, LookS S.N δ1 x i s (.lst ds) δ2 ∧ s.own = false ∧ C.nx δ2) (hx : Loc S.sc x) (ht : S.top = true ∨ S.sc.names.lookup x = some .local) :
    SD S (.Assign [.Name x pos'] (.List es lp) pos) δ C := sd_newL h hx ht
theorem i_call {x : Str} {j : Nat} {n : Nat} {R : List D → D → Prop} {e : Expr} {es : List Expr} {p pos : Pos} {Q : D → List Slot → Prop} (c : CallOk S.g j x (PureC n R)) (hj : j ≤ S.k) (hg : S.sc.names.lookup x = some .globalImplicit)
    (h : EaI S (e :: es) δ fun ds δ1 => ds.length = n ∧ ∃ d, R ds d ∧ Q d δ1) (hdb : (x == ("__debug__" : Str)) = false := by decide)
    (he : ∀ env, starEach (e :: es) env = (false, eval e env) :: starEach es env := by intro _; rfl) (hpl : ∀ env, (backTo pos (starEach es env)).any (·.1) = false := by intro _; rfl) : EvD S (.Call (.Name x p) (e :: es) [] pos) δ Q :=
  ev_call c hj hg (ea_mono h fun as δ1 ⟨ds, e1, hn, d, hr, q⟩ => ⟨ds, d, e1, ⟨ds, hn, rfl, rfl, hr⟩, q⟩) hdb he hpl
theorem i_bf {x : Str} {id : String} {e : Expr} {es : List Expr} {p pos : Pos} {Q : D → List Slot → Prop} (hg : S.sc.names.lookup x = some .globalImplicit) (hm : S.g.mg x = none) (hv : bootBuiltins x = some (.builtin id))
    (h : EaI S (e :: es) δ fun ds δ1 => ∃ z, CallD S (.builtin id) ds z ∧ Q z δ1) (hn : x ≠ "__name__" := by decide) (hdb : (x == ("__debug__" : Str)) = false := by decide)
    (he : ∀ env, starEach (e :: es) env = (false, eval e env) :: starEach es env := by intro _; rfl) (hpl : ∀ env, (backTo pos (starEach es env)).any (·.1) = false := by intro _; rfl) : EvD S (.Call (.Name x p) (e :: es) [] pos) δ Q :=
  ev_bf hg hm hv (ea_mono h fun as δ1 ⟨ds, e1, z, q⟩ => ⟨ds, z, e1, q⟩) hn hdb he hpl
theorem i_bt {x : Str} {T : String} {e : Expr} {es : List Expr} {p pos : Pos} {Q : D → List Slot → Prop} (hg : S.sc.names.lookup x = some .globalImplicit) (hm : S.g.mg x = none) (hv : bootBuiltins x = some (.type T))
    (h : EaI S (e :: es) δ fun ds δ1 => ∃ z, CallD S (.type T) ds z ∧ Q z δ1) (hn : x ≠ "__name__" := by decide) (hdb : (x == ("__debug__" : Str)) = false := by decide)
    (he : ∀ env, starEach (e :: es) env = (false, eval e env) :: starEach es env := by intro _; rfl) (hpl : ∀ env, (backTo pos (starEach es env)).any (·.1) = false := by intro _; rfl) : EvD S (.Call (.Name x p) (e :: es) [] pos) δ Q :=
  ev_bt hg hm hv (ea_mono h fun as δ1 ⟨ds, e1, z, q⟩ => ⟨ds, z, e1, q⟩) hn hdb he hpl
/-- a module's number -/
theorem ev_gint {x : Str} {n : Int} {pos : Pos} {Q : D → List Slot → Prop} (hg : S.sc.names.lookup x = some .globalImplicit) (hm : ∃ u, S.g.mg x = some u ∧ RelV (.int n) u) (q : Q (.int n) δ) (hd : (x == ("__debug__" : Str)) = false := by decide) : EvD S (.Name x pos) δ Q := by
  intro X ok M ad σ H sm
  obtain ⟨u, hm, hr⟩ := hm
  exact te_of (pe_glob (v := .int n) (gl_of ok hg) (by rw [ok.mg]; exact hm) hr hd) ⟨_, δ, q, .refl sm, .int n⟩
end
end Fb
end
section
namespace Fb
open PySem PySem.Spec PyProof.Rows L2
/-! ### loops and list displays over data of one kind -/
section
variable {S : Sc} {δ : List Slot} {C : Cn} {α : Type}
theorem lc_turn {S : Sc} {δ δ3 : List Slot} {tg elt : Expr} {ifs : List Expr} {vs : List Nat} {d : D} {I1 : List D → List Slot → Prop} {acc : List D} {b0 : Bool} {y0 : D} (tc : TgC S tg vs d δ δ3)
    (h : EifD S ifs δ3 fun b δ4 => b = b0 ∧ δ4 = δ3 ∧ (b = true → EvD S elt δ3 fun y δ5 => y = y0 ∧ δ5 = δ3)) (q1 : b0 = true → I1 (acc ++ [y0]) δ) (q2 : b0 = false → I1 acc δ) :
    EifD S ifs δ3 fun b δ4 => (b = true → EvD S elt δ4 fun y δ5 => ∃ δ6, Bk vs δ5 δ6 δ ∧ I1 (acc ++ [y]) δ6) ∧ (b = false → ∃ δ6, Bk vs δ4 δ6 δ ∧ I1 acc δ6) := fun X ok M ad σ H sm =>
  ti_mono (h X ok M ad σ H sm) fun b H' ⟨δ4, ⟨e1, e2, q⟩, st⟩ => by
    subst e1 e2
    exact ⟨_, ⟨fun hb => ev_mono (q hb) fun y δ5 ⟨e3, e4⟩ => ⟨δ, by rw [e4]; exact tc.bk, by rw [e3]; exact q1 hb⟩, fun hb => ⟨δ, tc.bk, q2 hb⟩⟩, st⟩
theorem ev_lcg (c : α → D) {tg iter elt : Expr} {ifs : List Expr} {scope : Scope} {pos : Pos} {Q : D → List Slot → Prop} (own : List (Str × Nat)) (hb : blkC S.N S.sc scope own = true)
    (h : EiD S tg iter δ fun ds δ1 => ∃ xs : List α, ds = xs.map c ∧ xs.length ≤ 100000 ∧ ∃ (p : α → Bool) (f : α → D), (∀ x ∈ xs, ∃ δ3, TgC (S.blk scope) tg (own.map (·.2)) (c x) δ1 δ3 ∧ EifD (S.blk scope) ifs δ3 fun b δ4 =>
        b = p x ∧ δ4 = δ3 ∧ (b = true → EvD (S.blk scope) elt δ3 fun y δ5 => y = f x ∧ δ5 = δ3)) ∧ Q (.list ((xs.filter p).map f)) δ1)
    (hs : ∀ env x, foldedSetIterable iter env x = pure x := by intro _ _; rfl) : EvD S (.ListComp elt [⟨tg, iter, ifs, 0⟩] scope pos) δ Q := by
  refine ev_lc own hb (fun X ok => ?_) hs
  obtain ⟨wi, pi, hk⟩ := h X ok
  refine ⟨wi, pi, fun M ad σ H sm R k => hk M ad σ H sm R fun J H1 δ1 ds ⟨xs, e, hlen, p, f, turn, fin⟩ st it => k J H1 δ1 ds ⟨by rw [e, List.length_map]; exact hlen, fun i acc δ2 => δ2 = δ1 ∧ acc = ((xs.take i).filter p).map f, ⟨rfl, rfl⟩, ?_, ?_⟩ st it⟩
  · rintro i d acc δ2 hd ⟨rfl, rfl⟩
    subst e
    rw [List.getElem?_map] at hd
    cases ex : xs[i]? with
    | none => rw [ex] at hd; cases hd
    | some x =>
      rw [ex] at hd
      cases hd
      obtain ⟨δ3, tc, hif⟩ := turn x (List.mem_of_getElem? ex)
      have tk : xs.take (i + 1) = xs.take i ++ [x] := by rw [List.take_succ, ex]; rfl
      refine ⟨δ3, tc, lc_turn (I1 := fun acc δx => δx = δ2 ∧ acc = ((xs.take (i + 1)).filter p).map f) tc hif (fun hb => ⟨rfl, ?_⟩) fun hb => ⟨rfl, ?_⟩⟩
      · rw [tk, List.filter_append, List.map_append, List.filter_cons, if_pos hb]; rfl
      · rw [tk, List.filter_append, List.map_append, List.filter_cons, if_neg (by rw [hb]; decide)]; simp
  · rintro acc δ2 ⟨rfl, rfl⟩
    rw [e, List.length_map, List.take_length]
    exact fin
theorem sd_setlcg (c : α → D) {y : Str} {py spos : Pos} {tg iter elt : Expr} {ifs : List Expr} {scope : Scope} {pos : Pos} {C : Cn} (own : List (Str × Nat)) (hb : blkC S.N S.sc scope own = true) (hk : S.sc.kind = .function) (hy : S.sc.names.lookup y = some .local)
    (hl : (py.line == pos.line) = true) (ha : (scope.names.any fun (n, k) => n == y && (k == .local || k == .cell)) = false) {iy : Nat} (hN : S.N[iy]? = some y)
    (h : EiD S tg iter δ fun ds δ1 => ∃ xs : List α, ds = xs.map c ∧ xs.length ≤ 100000 ∧ ∃ (p : α → Bool) (f : α → D), (∀ x ∈ xs, ∃ δ3, TgC (S.blk scope) tg (own.map (·.2)) (c x) δ1 δ3 ∧ EifD (S.blk scope) ifs δ3 fun b δ4 =>
        b = p x ∧ δ4 = δ3 ∧ (b = true → EvD (S.blk scope) elt δ3 fun y δ5 => y = f x ∧ δ5 = δ3)) ∧ ∃ s δ3, LookS S.N δ1 y iy s (.imm (.list ((xs.filter p).map f))) δ3 ∧ s.own = false ∧ C.nx δ3)
    (hs : ∀ env x, foldedSetIterable iter env x = pure x := by intro _ _; rfl) : SD S (.Assign [.Name y py] (.ListComp elt [⟨tg, iter, ifs, 0⟩] scope pos) spos) δ C := by
  refine sd_setlc own hb hk hy hl ha hN (fun X ok => ?_) hs
  obtain ⟨wi, pi, hk⟩ := h X ok
  refine ⟨wi, pi, fun M ad σ H sm R k => hk M ad σ H sm R fun J H1 δ1 ds ⟨xs, e, hlen, p, f, turn, fin⟩ st it => k J H1 δ1 ds ⟨by rw [e, List.length_map]; exact hlen, fun i acc δ2 => δ2 = δ1 ∧ acc = ((xs.take i).filter p).map f, ⟨rfl, rfl⟩, ?_, ?_⟩ st it⟩
  · rintro i d acc δ2 hd ⟨rfl, rfl⟩
    subst e
    rw [List.getElem?_map] at hd
    cases ex : xs[i]? with
    | none => rw [ex] at hd; cases hd
    | some x =>
      rw [ex] at hd
      cases hd
      obtain ⟨δ3, tc, hif⟩ := turn x (List.mem_of_getElem? ex)
      have tk : xs.take (i + 1) = xs.take i ++ [x] := by rw [List.take_succ, ex]; rfl
      refine ⟨δ3, tc, lc_turn (I1 := fun acc δx => δx = δ2 ∧ acc = ((xs.take (i + 1)).filter p).map f) tc hif (fun hb => ⟨rfl, ?_⟩) fun hb => ⟨rfl, ?_⟩⟩
      · rw [tk, List.filter_append, List.map_append, List.filter_cons, if_pos hb]; rfl
      · rw [tk, List.filter_append, List.map_append, List.filter_cons, if_neg (by rw [hb]; decide)]; simp
  · rintro acc δ2 ⟨rfl, rfl⟩
    rw [e, List.length_map, List.take_length]
    exact fin
theorem filter_tt (xs : List α) : xs.filter (fun _ => true) = xs := List.filter_eq_self.mpr fun _ _ => rfl
/-- without a filter -/
theorem ev_lcm (c : α → D) {tg iter elt : Expr} {scope : Scope} {pos : Pos} {Q : D → List Slot → Prop} (own : List (Str × Nat)) (hb : blkC S.N S.sc scope own = true)
    (h : EiD S tg iter δ fun ds δ1 => ∃ xs : List α, ds = xs.map c ∧ xs.length ≤ 100000 ∧ ∃ (f : α → D), (∀ x ∈ xs, ∃ δ3, TgC (S.blk scope) tg (own.map (·.2)) (c x) δ1 δ3 ∧ EvD (S.blk scope) elt δ3 fun y δ5 => y = f x ∧ δ5 = δ3) ∧ Q (.list (xs.map f)) δ1)
    (hs : ∀ env x, foldedSetIterable iter env x = pure x := by intro _ _; rfl) : EvD S (.ListComp elt [⟨tg, iter, [], 0⟩] scope pos) δ Q := by
  refine ev_lcg c own hb (fun X ok => ?_) hs
  obtain ⟨wi, pi, hk⟩ := h X ok
  refine ⟨wi, pi, fun M ad σ H sm R k => hk M ad σ H sm R fun J H1 δ1 ds ⟨xs, e, l, f, turn, q⟩ st it => k J H1 δ1 ds ⟨xs, e, l, fun _ => true, f, fun x hx => ?_, by rw [filter_tt]; exact q⟩ st it⟩
  obtain ⟨δ3, t, q⟩ := turn x hx
  exact ⟨δ3, t, eif_nil ⟨rfl, rfl, fun _ => q⟩⟩
theorem sd_setlcm (c : α → D) {y : Str} {py spos : Pos} {tg iter elt : Expr} {scope : Scope} {pos : Pos} {C : Cn} (own : List (Str × Nat)) (hb : blkC S.N S.sc scope own = true) (hk : S.sc.kind = .function) (hy : S.sc.names.lookup y = some .local)
    (hl : (py.line == pos.line) = true) (ha : (scope.names.any fun (n, k) => n == y && (k == .local || k == .cell)) = false) {iy : Nat} (hN : S.N[iy]? = some y)
    (h : EiD S tg iter δ fun ds δ1 => ∃ xs : List α, ds = xs.map c ∧ xs.length ≤ 100000 ∧ ∃ (f : α → D), (∀ x ∈ xs, ∃ δ3, TgC (S.blk scope) tg (own.map (·.2)) (c x) δ1 δ3 ∧ EvD (S.blk scope) elt δ3 fun y δ5 => y = f x ∧ δ5 = δ3) ∧ ∃ s δ3, LookS S.N δ1 y iy s (.imm (.list (xs.map f))) δ3 ∧ s.own = false ∧ C.nx δ3)
    (hs : ∀ env x, foldedSetIterable iter env x = pure x := by intro _ _; rfl) : SD S (.Assign [.Name y py] (.ListComp elt [⟨tg, iter, [], 0⟩] scope pos) spos) δ C := by
  refine sd_setlcg c own hb hk hy hl ha hN (fun X ok => ?_) hs
  obtain ⟨wi, pi, hk⟩ := h X ok
  refine ⟨wi, pi, fun M ad σ H sm R k => hk M ad σ H sm R fun J H1 δ1 ds ⟨xs, e, l, f, turn, q⟩ st it => k J H1 δ1 ds ⟨xs, e, l, fun _ => true, f, fun x hx => ?_, by rw [filter_tt]; exact q⟩ st it⟩
  obtain ⟨δ3, t, q⟩ := turn x hx
  exact ⟨δ3, t, eif_nil ⟨rfl, rfl, fun _ => q⟩⟩
theorem sd_forg (c : α → D) {tg iter : Expr} {body : List Stmt} {pos : Pos}
    (h : EiD S tg iter δ fun ds δ1 => ∃ xs : List α, ds = xs.map c ∧ ∃ I : Nat → List Slot → Prop, (∃ δ2, Weak δ1 δ2 ∧ I 0 δ2) ∧
      (∀ (i : Nat) x δ2, xs[i]? = some x → I i δ2 → ∃ δ3, TgD S tg (c x) δ2 δ3 ∧ SDs S body δ3 { C with nx := fun δ4 => ∃ δ5, Weak δ4 δ5 ∧ I (i + 1) δ5, ct := fun δ4 => ∃ δ5, Weak δ4 δ5 ∧ I (i + 1) δ5, bk := C.nx }) ∧
      ∀ δ2, I xs.length δ2 → C.nx δ2) (hs : ∀ env x, foldedSetIterable iter env x = pure x := by intro _ _; rfl) : SD S (.For tg iter body [] pos) δ C := by
  refine sd_for (fun X ok => ?_) hs
  obtain ⟨wi, pi, hk⟩ := h X ok
  refine ⟨wi, pi, fun M ad σ H sm R k => hk M ad σ H sm R fun J H1 δ1 ds ⟨xs, e, I, h0, turn, fin⟩ st it => k J H1 δ1 ds ⟨I, h0, fun i d δ2 hd hI => ?_, by rw [e, List.length_map]; exact fin⟩ st it⟩
  subst e
  rw [List.getElem?_map] at hd
  cases ex : xs[i]? with
  | none => rw [ex] at hd; cases hd
  | some x =>
    rw [ex] at hd
    cases hd
    exact turn i x δ2 ex hI
end
/-! ### whole numbers from 0 -/
def upto (n : Nat) : List Int := (List.range n).map fun (i : Nat) => (i : Int)
theorem upto_len {n : Nat} : (upto n).length = n := by unfold upto; rw [List.length_map, List.length_range]
theorem upto_get {n i : Nat} {x : Int} (h : (upto n)[i]? = some x) : i < n ∧ x = i := by
  unfold upto at h
  rw [List.getElem?_map] at h
  by_cases c : i < n
  · rw [List.getElem?_range c] at h
    exact ⟨c, (Option.some.inj h).symm⟩
  · rw [List.getElem?_eq_none (by rw [List.length_range]; omega)] at h
    cases h
theorem upto_mem {n : Nat} {x : Int} : x ∈ upto n ↔ 0 ≤ x ∧ x < n := by
  unfold upto
  simp only [List.mem_map, List.mem_range]
  exact ⟨fun ⟨a, h, e⟩ => by omega, fun ⟨h, g⟩ => ⟨x.toNat, by omega, by omega⟩⟩
theorem upto_take {n i : Nat} (h : i ≤ n) : (upto n).take i = upto i := by
  unfold upto
  rw [← List.map_take, List.take_range, Nat.min_eq_left h]
theorem upto_succ {n : Nat} : upto (n + 1) = upto n ++ [(n : Int)] := by
  unfold upto
  rw [List.range_succ, List.map_append]; rfl
theorem rg_upto {n : Nat} : rgD 0 1 n = (upto n).map .int := by
  unfold rgD upto
  rw [List.map_map]
  refine List.map_congr_left fun i _ => ?_
  show PyData.int _ = PyData.int _
  rw [Int.zero_add, Int.mul_one]
/-! ### sorting -/
def sortI (ns : List Int) : List Int := ns.mergeSort fun a b => decide (a ≤ b)
theorem sortI_perm {ns : List Int} : (sortI ns).Perm ns := List.mergeSort_perm _ _
theorem sortI_pw {ns : List Int} : (sortI ns).Pairwise (· ≤ ·) := by
  have := List.pairwise_mergeSort (le := fun (a b : Int) => decide (a ≤ b)) (fun a b c h g => by simp at *; omega) (fun a b => by simp; omega) ns
  exact this.imp fun h => by simpa using h
theorem sortI_eq {ns zs : List Int} (p : zs.Perm ns) (w : zs.Pairwise (· ≤ ·)) : zs = sortI ns :=
  List.Perm.eq_of_pairwise (le := (· ≤ ·)) (fun a b _ _ h g => by omega) w sortI_pw (p.trans sortI_perm.symm)
theorem sortI_mem {ns : List Int} {x : Int} : x ∈ sortI ns ↔ x ∈ ns := sortI_perm.mem_iff
theorem sortI_len {ns : List Int} : (sortI ns).length = ns.length := sortI_perm.length_eq
theorem atI_some {α : Type} {xs : List α} {i : Int} {j : Nat} {x : α} (e : i = j) (h : xs[j]? = some x) : atI xs i = some x := by
  subst e
  have hj := (List.getElem?_eq_some_iff.mp h).1
  unfold atI ixN
  rw [if_pos (by omega), if_pos (by omega)]
  exact h
theorem ixN_nat {n j : Nat} {i : Int} (e : i = j) (h : j < n) : ixN n i = some j := by
  subst e
  unfold ixN
  rw [if_pos (by omega), if_pos (by omega)]
  rfl
theorem nb1 {p : Prop} (h : (!true) = true) : p := by cases h
theorem nb2 {p : Prop} (h : (!false) = false) : p := by cases h
theorem nb3 {p : Prop} (h : false = true) : p := by cases h
theorem nb4 {p : Prop} (h : true = false) : p := by cases h
end Fb
end
section
namespace Fb
open PySem PySem.Spec PyProof.Rows L2
/-! ### what the defs compute -/
abbrev Hist := List (Str × List Int)
def rowD (p : Str × List Int) : D := .tuple [.str p.1, tI p.2]
def hD (h : Hist) : D := .tuple [.str "history", .tuple (h.map rowD)]
structure HOk (h : Hist) : Prop where
  len : h.length ≤ 6
  par : ∀ p ∈ h, p.2.length ≤ 6
  low : ∀ (k : Nat) p, h[k]? = some p → ∀ q ∈ p.2, 0 ≤ q ∧ q < k
def parI (h : Hist) (k : Int) : List Int := (h.getD k.toNat ("", [])).2
def addI (f : List Int) (p : Int) : List Int := if p ∈ f then f else f ++ [p]
def ancStep (h : Hist) (f : List Int) (k : Int) : List Int := if k ∈ f then (parI h k).foldl addI f else f
def ancK (h : Hist) (m : Int) : Nat → List Int
  | 0 => [m]
  | i + 1 => ancStep h (ancK h m i) (m - i)
def anc (h : Hist) (m : Int) : List Int := sortI (ancK h m (m + 1).toNat)
def brk (h : Hist) (c m : Int) : Bool := decide (c ∈ anc h m)
def tst (h : Hist) (sk : List Int) : List Int := (upto h.length).filter fun m => !decide (m ∈ sk)
theorem addI_yes {f : List Int} {p : Int} (h : p ∈ f) : addI f p = f := if_pos h
theorem addI_no {f : List Int} {p : Int} (h : p ∉ f) : addI f p = f ++ [p] := if_neg h
theorem addI_len {f : List Int} {p : Int} : (addI f p).length ≤ f.length + 1 := by
  unfold addI
  split
  · omega
  · rw [List.length_append]; simp
theorem foldA_len : ∀ (ps : List Int) (f : List Int), (ps.foldl addI f).length ≤ f.length + ps.length
  | [], f => by simp
  | p :: ps, f => by
    have h := foldA_len ps (addI f p)
    have g := addI_len (f := f) (p := p)
    rw [List.foldl_cons, List.length_cons]
    omega
theorem parI_get {h : Hist} {k : Nat} {x : Int} (e : x = k) {p : Str × List Int} (hp : h[k]? = some p) : parI h x = p.2 := by
  subst e
  unfold parI
  rw [Int.toNat_natCast, List.getD_eq_getElem?_getD, hp]; rfl
theorem HOk.parLen {h : Hist} (o : HOk h) (k : Int) : (parI h k).length ≤ 6 := by
  unfold parI
  rw [List.getD_eq_getElem?_getD]
  cases e : h[k.toNat]? with
  | none => simp
  | some p => exact o.par p (List.mem_of_getElem? e)
theorem ancK_len {h : Hist} (o : HOk h) {m : Int} : ∀ i, (ancK h m i).length ≤ 1 + 6 * i
  | 0 => by simp [ancK]
  | i + 1 => by
    have ih := ancK_len o (m := m) i
    unfold ancK ancStep
    split
    · have := foldA_len (parI h (m - i)) (ancK h m i)
      have := o.parLen (m - i)
      omega
    · omega
/-- a row in the table of the like ones -/
def addC (b : List Bool) (c : Int) : List (List Bool × List Int) → List (List Bool × List Int)
  | [] => [(b, [c])]
  | (b', l) :: r => if b' = b then (b', l ++ [c]) :: r else (b', l) :: addC b c r
def grp (f : Int → List Bool) (cs : List Int) : List (List Bool × List Int) := cs.foldl (fun s c => addC (f c) c s) []
def mark (h : Hist) (sk : List Int) (c : Int) : List Bool := (tst h sk).map (brk h c)
def clsT (h : Hist) (sk : List Int) : List (List Bool × List Int) := grp (mark h sk) (upto h.length)
def cls (h : Hist) (sk : List Int) : List (List Int) := (clsT h sk).map (·.2)
def bby (h : Hist) (found : List (List Int)) (m : Int) : List Int := (upto found.length).filter fun k => brk h ((found.getD k.toNat []).headD 0) m
def tsStep (h : Hist) (cs : List (List Int)) (s : List (List Int) × List Int) (m : Int) : List (List Int) × List Int :=
  if 0 < (bby h cs m).length ∧ (bby h cs m).length < cs.length ∧ bby h cs m ∉ s.1 then (s.1 ++ [bby h cs m], s.2 ++ [m]) else s
def tsts (h : Hist) (sk : List Int) : List Int := ((tst h sk).foldl (tsStep h (cls h sk)) ([], [])).2
def choP (ns : List Int) (c : List Int → List (List Int)) (p : Nat) : List (List Int) := (c (ns.drop (p + 1))).map fun r => ns.getD p 0 :: r
def cho : Nat → List Int → List (List Int)
  | 0, _ => [[]]
  | k + 1, ns => (List.range ns.length).flatMap (choP ns (cho k))
def heads (h : Hist) (sk : List Int) : List Int := (cls h sk).map fun l => l.headD 0
def prt (h : Hist) (left : List Int) (m : Int) : List Int := left.filter fun c => brk h c m
def umStep (h : Hist) (left : List Int) (s : List (List Int) × List Int) (m : Int) : List (List Int) × List Int :=
  if 0 < (prt h left m).length ∧ (prt h left m).length < left.length ∧ prt h left m ∉ s.1 then (s.1 ++ [prt h left m], s.2 ++ [m]) else s
def usef (h : Hist) (sk left : List Int) : List Int := ((tsts h sk).foldl (umStep h left) ([], [])).2
def clsOf (rows : List (List Int)) (c : Int) : Int := match rows.findIdx? fun l => decide (c ∈ l) with | some j => (j : Int) | none => -1
theorem choP_len {ns : List Int} {c : List Int → List (List Int)} {p : Nat} : (choP ns c p).length = (c (ns.drop (p + 1))).length := by unfold choP; rw [List.length_map]
theorem flat_len {α : Type} {f : Nat → List α} {b : Nat} (h : ∀ i, (f i).length ≤ b) : ∀ n, ((List.range n).flatMap f).length ≤ n * b
  | 0 => by simp
  | n + 1 => by
    rw [List.range_succ, List.flatMap_append, List.length_append, Nat.succ_mul]
    have := flat_len h n
    have := h n
    simp only [List.flatMap_cons, List.flatMap_nil, List.append_nil]
    omega
theorem cho_len : ∀ (k : Nat) (ns : List Int), ns.length ≤ 6 → (cho k ns).length ≤ 6 ^ k
  | 0, ns, _ => by simp [cho]
  | k + 1, ns, h => by
    have hd : ∀ p, (choP ns (cho k) p).length ≤ 6 ^ k := fun p => by
      rw [choP_len]
      exact cho_len k _ (by rw [List.length_drop]; omega)
    have := flat_len hd ns.length
    unfold cho
    have h2 : ns.length * 6 ^ k ≤ 6 * 6 ^ k := Nat.mul_le_mul_right _ h
    rw [Nat.pow_succ]
    omega
section
variable {S : Sc}
theorem ix_h1 {h : Hist} : IxD S (hD h) (.int 1) (.tuple (h.map rowD)) := ix_T rfl
theorem ix_r1 {p : Str × List Int} : IxD S (rowD p) (.int 1) (tI p.2) := ix_T rfl
theorem ix_hk {h : Hist} {i : Int} {k : Nat} {p : Str × List Int} (e : i = k) (hp : h[k]? = some p) : IxD S (.tuple (h.map rowD)) (.int i) (rowD p) := ix_T (atI_some e (by rw [List.getElem?_map, hp]; rfl))
theorem c_lenH {h : Hist} : CallD S (.builtin "len") [.tuple (h.map rowD)] (.int h.length) := by
  have := c_lenT (S := S) (ds := h.map rowD)
  rwa [List.length_map] at this
theorem c_lenTI {ns : List Int} : CallD S (.builtin "len") [tI ns] (.int ns.length) := by
  have := c_lenT (S := S) (ds := ns.map .int)
  rwa [List.length_map] at this
theorem c_lenLI {ns : List Int} : CallD S (.builtin "len") [lI ns] (.int ns.length) := by
  have := c_lenL (S := S) (ds := ns.map .int)
  rwa [List.length_map] at this
end
end Fb
end
section
namespace Fb
open PySem PySem.Spec PyProof.Rows L2
/-! ### data of small depth -/
structure Shd (n : Nat) (d : D) : Prop where
  lay : d.canLay0 = true
  dep : d.depth ≤ n
theorem Shd.mono {m n : Nat} {d : D} (h : Shd m d) (l : m ≤ n) : Shd n d := ⟨h.lay, Nat.le_trans h.dep l⟩
theorem Shd.shaped {n : Nat} {d : D} (h : Shd n d) (l : n ≤ 64) : SeqAt.shaped d = true := by
  show (d.canLay0 && decide (d.depth ≤ 64)) = true
  rw [Bool.and_eq_true]
  exact ⟨h.lay, decide_eq_true (Nat.le_trans h.dep l)⟩
theorem shd_int {n : Nat} {i : Int} : Shd n (.int i) := ⟨by simp [PyData.canLay0], by simp [PyData.depth]⟩
theorem shd_bl {n : Nat} {b : Bool} : Shd n (.bool b) := ⟨by simp [PyData.canLay0], by simp [PyData.depth]⟩
theorem shd_non {n : Nat} : Shd n .none := ⟨by simp [PyData.canLay0], by simp [PyData.depth]⟩
theorem shd_str {n : Nat} {x : Str} (h : PyData.strOk x = true) : Shd n (.str x) := ⟨by simpa [PyData.canLay0] using h, by simp [PyData.depth]⟩
theorem shd_all {n : Nat} : ∀ {ds : List D}, (∀ d ∈ ds, Shd n d) → PyData.canLayAll0 ds = true ∧ PyData.depthAll ds ≤ n
  | [], _ => ⟨by simp [PyData.canLayAll0], by simp [PyData.depthAll]⟩
  | d :: ds, h => by
    obtain ⟨h1, h2⟩ := shd_all (ds := ds) fun e he => h e (List.mem_cons_of_mem _ he)
    have h0 := h d List.mem_cons_self
    refine ⟨by simp [PyData.canLayAll0, h0.lay, h1], ?_⟩
    simp only [PyData.depthAll]
    have := h0.dep
    omega
theorem shd_lst {n : Nat} {ds : List D} (h : ∀ d ∈ ds, Shd n d) : Shd (n + 1) (.list ds) := by
  obtain ⟨h1, h2⟩ := shd_all h
  exact ⟨by simpa [PyData.canLay0] using h1, by simp only [PyData.depth]; omega⟩
theorem shd_tup {n : Nat} {ds : List D} (h : ∀ d ∈ ds, Shd n d) : Shd (n + 1) (.tuple ds) := by
  obtain ⟨h1, h2⟩ := shd_all h
  exact ⟨by simpa [PyData.canLay0] using h1, by simp only [PyData.depth]; omega⟩
theorem shd_map {α : Type} {n : Nat} {c : α → D} (h : ∀ x, Shd n (c x)) (xs : List α) : ∀ d ∈ xs.map c, Shd n d := fun d hd => by
  obtain ⟨x, _, e⟩ := List.mem_map.mp hd
  rw [← e]; exact h x
theorem shd_tI {ns : List Int} : Shd 1 (tI ns) := shd_tup (shd_map (fun _ => shd_int) ns)
theorem shd_lI {ns : List Int} : Shd 1 (lI ns) := shd_lst (shd_map (fun _ => shd_int) ns)
theorem shd_tB {ns : List Bool} : Shd 1 (tB ns) := shd_tup (shd_map (fun _ => shd_bl) ns)
theorem shd_lB {ns : List Bool} : Shd 1 (lB ns) := shd_lst (shd_map (fun _ => shd_bl) ns)
theorem shd_nil_T : Shd 1 (.tuple []) := shd_tup (by simp)
theorem shd_nil_L : Shd 1 (.list []) := shd_lst (by simp)
/-! ### equal data -/
theorem eqvAll_map {α : Type} {c : α → D} (h : ∀ x y, PyData.eqv (c x) (c y) = true ↔ x = y) : ∀ xs ys : List α, PyData.eqvAll (xs.map c) (ys.map c) = true ↔ xs = ys
  | [], [] => by simp [PyData.eqvAll]
  | [], y :: ys => by simp [PyData.eqvAll]
  | x :: xs, [] => by simp [PyData.eqvAll]
  | x :: xs, y :: ys => by
    have ih := eqvAll_map h xs ys
    simp only [List.map_cons, PyData.eqvAll, Bool.and_eq_true, List.cons.injEq]
    rw [ih, h]
theorem eqv_int (i j : Int) : PyData.eqv (.int i) (.int j) = true ↔ i = j := by simp [PyData.eqv]
theorem eqv_bl (i j : Bool) : PyData.eqv (.bool i) (.bool j) = true ↔ i = j := by simp [PyData.eqv]
theorem eqv_tup {α : Type} {c : α → D} (h : ∀ x y, PyData.eqv (c x) (c y) = true ↔ x = y) (xs ys : List α) : PyData.eqv (.tuple (xs.map c)) (.tuple (ys.map c)) = true ↔ xs = ys := by
  rw [← eqvAll_map h]; simp only [PyData.eqv]
theorem eqv_lst {α : Type} {c : α → D} (h : ∀ x y, PyData.eqv (c x) (c y) = true ↔ x = y) (xs ys : List α) : PyData.eqv (.list (xs.map c)) (.list (ys.map c)) = true ↔ xs = ys := by
  rw [← eqvAll_map h]; simp only [PyData.eqv]
theorem eqv_tI (a b : List Int) : PyData.eqv (tI a) (tI b) = true ↔ a = b := eqv_tup eqv_int a b
theorem eqv_lI (a b : List Int) : PyData.eqv (lI a) (lI b) = true ↔ a = b := eqv_lst eqv_int a b
theorem eqv_tB (a b : List Bool) : PyData.eqv (tB a) (tB b) = true ↔ a = b := eqv_tup eqv_bl a b
theorem eqv_lB (a b : List Bool) : PyData.eqv (lB a) (lB b) = true ↔ a = b := eqv_lst eqv_bl a b
theorem any_eqv {α : Type} {c : α → D} (h : ∀ x y, PyData.eqv (c x) (c y) = true ↔ x = y) {xs : List α} {y : α} : ((xs.map c).any fun z => PyData.eqv z (c y)) = true ↔ y ∈ xs := by
  rw [List.any_eq_true]
  constructor
  · rintro ⟨z, hz, he⟩
    obtain ⟨x, hx, e⟩ := List.mem_map.mp hz
    subst e
    rw [h] at he
    rw [← he]; exact hx
  · exact fun hy => ⟨_, List.mem_map.mpr ⟨y, hy, rfl⟩, (h y y).mpr rfl⟩
theorem any_eqvN {α : Type} {c : α → D} (h : ∀ x y, PyData.eqv (c x) (c y) = true ↔ x = y) {xs : List α} {y : α} (e : ((xs.map c).any fun z => PyData.eqv z (c y)) = false) : y ∉ xs := fun q => by
  rw [(any_eqv h).mpr q] at e; cases e
section
variable {S : Sc} {δ : List Slot}
/-- x.index(e), x an owned list -/
theorem ev_indexO {x : Str} {e : Expr} {np ap cp : Pos} {i : Nat} {ds0 : List D} {Q : D → List Slot → Prop} (l0 : Look S.N δ x i (.lst ds0)) (hv : Vis S.sc x)
    (h : EvD S e δ fun d δ1 => ∃ (ds : List D) (j : Nat) (z : D), Look S.N δ1 x i (.lst ds) ∧ SeqAt.shaped (.list ds) = true ∧ SeqAt.shaped d = true ∧ ds[j]? = some z ∧ PyData.eqv z d = true ∧ (∀ (m : Nat) (z' : D), m < j → ds[m]? = some z' → PyData.eqv z' d = false) ∧ Q (.int (j : Nat)) δ1)
    (hd : (x == ("__debug__" : Str)) = false := by decide) (hcd : (x == ("__classdict__" : Str)) = false := by decide) (hs : ∀ env, starEach [e] env = (false, eval e env) :: starEach [] env := by intro _; rfl)
    (hline : (ap.endLine == cp.line) = true := by rfl) (hfew : ∀ env, ((backTo cp (starEach [e] env)).all (fun x => !x.1) && (backToKw cp (keywordEach [] env)).all (fun x => x.1.isSome) && decide (([e] : List Expr).length + ([] : List Keyword).length + (if ([] : List Keyword).isEmpty then 0 else 1) < 30)) = true := by intro _; rfl) :
    EvD S (.Call (.Attribute (.Name x np) "index" ap) [e] [] cp) δ Q := by
  intro X ok M ad σ H sm
  obtain ⟨e1, hM, us0, e2, _⟩ := sm.ok i _ l0.slot
  refine te_of (pe_bm PySem.F.plainAttrs_list PySem.F.slot_list_index PySem.F.type_list_index (mt_indexD (hu65 ok)) (pe_var (i := i) (by rw [ok.N]; exact l0.name) (vis_of ok hv) hd hcd) (pa_cons pe_x pa_nil (hs _)) rfl (hfew _) hline (hs _) rfl) ?_
  refine ⟨_, slot_some e1, .inl ⟨rfl, _, SqL.of e2⟩, ?_⟩
  refine te_mono (h X ok M ad σ H sm) fun v H1 ⟨d, δ1, ⟨ds, j, z, lk, s1, s2, hz, hzj, hno, q⟩, st, dv⟩ => ?_
  obtain ⟨e3, hM3, us, e4, a4⟩ := st.sm.ok i _ lk.slot
  refine ⟨_, v, d, ds, j, z, rfl, rfl, ?_, ?_, s1, s2, hz, hzj, hno, _, δ1, q, st, .int _⟩
  · rw [ok.K]; exact .lst (SqL.of e4) (daAll_dp _ (SeqAt.canLay_of_shaped s1) (dpAll_mono mask_le _ a4))
  · rw [ok.K]; exact da_dp _ (SeqAt.canLay_of_shaped s2) (dp_up dv)
end
/-! ### kinds -/
def isTup : D → Bool
  | .tuple _ => true
  | _ => false
def isIntB : D → Bool
  | .int _ => true
  | .bool _ => true
  | _ => false
def isBol : D → Bool
  | .bool _ => true
  | _ => false
def isInt : D → Bool
  | .int _ => true
  | _ => false
def NoD (d : D) : Prop := ∀ kvs, d ≠ .dict kvs
theorem kit_tuple {d : D} (h : NoD d) : kitB (tyD d) "tuple" = some (isTup d) := by
  cases d with
  | dict kvs => exact absurd rfl (h kvs)
  | none => decide +kernel
  | bool b => show kitB "bool" "tuple" = some false; decide +kernel
  | int b => show kitB "int" "tuple" = some false; decide +kernel
  | str b => show kitB "str" "tuple" = some false; decide +kernel
  | list b => show kitB "list" "tuple" = some false; decide +kernel
  | tuple b => show kitB "tuple" "tuple" = some true; decide +kernel
theorem kit_int {d : D} (h : NoD d) : kitB (tyD d) "int" = some (isIntB d) := by
  cases d with
  | dict kvs => exact absurd rfl (h kvs)
  | none => decide +kernel
  | bool b => show kitB "bool" "int" = some true; decide +kernel
  | int b => show kitB "int" "int" = some true; decide +kernel
  | str b => show kitB "str" "int" = some false; decide +kernel
  | list b => show kitB "list" "int" = some false; decide +kernel
  | tuple b => show kitB "tuple" "int" = some false; decide +kernel
theorem kit_bool {d : D} (h : NoD d) : kitB (tyD d) "bool" = some (isBol d) := by
  cases d with
  | dict kvs => exact absurd rfl (h kvs)
  | none => decide +kernel
  | bool b => show kitB "bool" "bool" = some true; decide +kernel
  | int b => show kitB "int" "bool" = some false; decide +kernel
  | str b => show kitB "str" "bool" = some false; decide +kernel
  | list b => show kitB "list" "bool" = some false; decide +kernel
  | tuple b => show kitB "tuple" "bool" = some false; decide +kernel
theorem nod_lay {d : D} (h : d.canLay0 = true) : NoD d := fun kvs e => by subst e; simp [PyData.canLay0] at h
theorem nod_tup {ds : List D} : NoD (.tuple ds) := fun _ h => by cases h
theorem nod_int {i : Int} : NoD (.int i) := fun _ h => by cases h
section
variable {S : Sc} {δ : List Slot}
theorem i_isT {e : Expr} {p p2 pos : Pos} {Q : D → List Slot → Prop} (hg : S.sc.names.lookup ("isinstance" : Str) = some .globalImplicit) (hm : S.g.mg "isinstance" = none) (hg2 : S.sc.names.lookup ("tuple" : Str) = some .globalImplicit) (hm2 : S.g.mg "tuple" = none)
    (h : EvD S e δ fun d δ1 => NoD d ∧ Q (.bool (isTup d)) δ1) (he : ∀ env, starEach [e, .Name "tuple" p2] env = (false, eval e env) :: starEach [.Name "tuple" p2] env := by intro _; rfl) : EvD S (.Call (.Name "isinstance" p) [e, .Name "tuple" p2] [] pos) δ Q :=
  ev_isi (n := "tuple") hg hm (by decide +kernel) hg2 hm2 (by decide +kernel) (ev_mono h fun d δ1 ⟨n, q⟩ => ⟨n, _, kit_tuple n, q⟩) (he := he)
theorem i_isI {e : Expr} {p p2 pos : Pos} {Q : D → List Slot → Prop} (hg : S.sc.names.lookup ("isinstance" : Str) = some .globalImplicit) (hm : S.g.mg "isinstance" = none) (hg2 : S.sc.names.lookup ("int" : Str) = some .globalImplicit) (hm2 : S.g.mg "int" = none)
    (h : EvD S e δ fun d δ1 => NoD d ∧ Q (.bool (isIntB d)) δ1) (he : ∀ env, starEach [e, .Name "int" p2] env = (false, eval e env) :: starEach [.Name "int" p2] env := by intro _; rfl) : EvD S (.Call (.Name "isinstance" p) [e, .Name "int" p2] [] pos) δ Q :=
  ev_isi (n := "int") hg hm (by decide +kernel) hg2 hm2 (by decide +kernel) (ev_mono h fun d δ1 ⟨n, q⟩ => ⟨n, _, kit_int n, q⟩) (he := he)
theorem i_isB {e : Expr} {p p2 pos : Pos} {Q : D → List Slot → Prop} (hg : S.sc.names.lookup ("isinstance" : Str) = some .globalImplicit) (hm : S.g.mg "isinstance" = none) (hg2 : S.sc.names.lookup ("bool" : Str) = some .globalImplicit) (hm2 : S.g.mg "bool" = none)
    (h : EvD S e δ fun d δ1 => NoD d ∧ Q (.bool (isBol d)) δ1) (he : ∀ env, starEach [e, .Name "bool" p2] env = (false, eval e env) :: starEach [.Name "bool" p2] env := by intro _; rfl) : EvD S (.Call (.Name "isinstance" p) [e, .Name "bool" p2] [] pos) δ Q :=
  ev_isi (n := "bool") hg hm (by decide +kernel) hg2 hm2 (by decide +kernel) (ev_mono h fun d δ1 ⟨n, q⟩ => ⟨n, _, kit_bool n, q⟩) (he := he)
end
theorem isTup_ex {d : D} (h : isTup d = true) : ∃ ds, d = .tuple ds := by
  cases d <;> simp [isTup] at h
  exact ⟨_, rfl⟩
theorem isInt_ex {d : D} (h : isInt d = true) : ∃ i, d = .int i := by
  cases d <;> simp [isInt] at h
  exact ⟨_, rfl⟩
theorem isBol_ex {d : D} (h : isBol d = true) : ∃ i, d = .bool i := by
  cases d <;> simp [isBol] at h
  exact ⟨_, rfl⟩
theorem isInt_and {d : D} : (isIntB d && !isBol d) = isInt d := by cases d <;> rfl
theorem lay_all {ds : List D} (h : PyData.canLayAll0 ds = true) : ∀ d ∈ ds, d.canLay0 = true := by
  induction ds with
  | nil => intro d hd; simp at hd
  | cons x xs ih =>
    simp only [PyData.canLayAll0, Bool.and_eq_true] at h
    intro d hd
    rcases List.mem_cons.mp hd with hd | hd
    · rw [hd]; exact h.1
    · exact ih h.2 d hd
/-! ### the table of the like ones -/
theorem addC_keys_in {b : List Bool} {c : Int} : ∀ {t : List (List Bool × List Int)}, b ∈ t.map (·.1) → (addC b c t).map (·.1) = t.map (·.1)
  | [], h => by simp at h
  | (b', l) :: r, h => by
    unfold addC
    by_cases e : b' = b
    · rw [if_pos e]; rfl
    · rw [if_neg e, List.map_cons, List.map_cons, addC_keys_in (t := r) (by
        rcases List.mem_cons.mp h with h | h
        · exact absurd h.symm e
        · exact h)]
theorem addC_out {b : List Bool} {c : Int} : ∀ {t : List (List Bool × List Int)}, b ∉ t.map (·.1) → addC b c t = t ++ [(b, [c])]
  | [], _ => rfl
  | (b', l) :: r, h => by
    rw [List.map_cons, List.mem_cons, not_or] at h
    unfold addC
    rw [if_neg (fun e => h.1 e.symm), addC_out h.2]; rfl
/-- where the like ones are -/
theorem addC_at {b : List Bool} {c : Int} : ∀ {t : List (List Bool × List Int)}, b ∈ t.map (·.1) → ∃ j l, t[j]? = some (b, l) ∧ (∀ m, m < j → ∀ p, t[m]? = some p → p.1 ≠ b) ∧ addC b c t = t.set j (b, l ++ [c])
  | [], h => by simp at h
  | (b', l) :: r, h => by
    by_cases e : b' = b
    · subst e
      exact ⟨0, l, rfl, fun m hm => absurd hm (Nat.not_lt_zero _), by unfold addC; rw [if_pos rfl]; rfl⟩
    · obtain ⟨j, l', h1, h2, h3⟩ := addC_at (c := c) (t := r) (by
        rcases List.mem_cons.mp h with h | h
        · exact absurd h.symm e
        · exact h)
      refine ⟨j + 1, l', by rw [List.getElem?_cons_succ]; exact h1, fun m hm p hp => ?_, by unfold addC; rw [if_neg e, h3]; rfl⟩
      cases m with
      | zero =>
        rw [List.getElem?_cons_zero] at hp
        cases hp
        exact e
      | succ m => exact h2 m (by omega) p (by rwa [List.getElem?_cons_succ] at hp)
theorem addC_len {b : List Bool} {c : Int} : ∀ {t : List (List Bool × List Int)}, (addC b c t).length ≤ t.length + 1
  | [] => by simp [addC]
  | (b', l) :: r => by
    unfold addC
    split
    · simp
    · have := addC_len (b := b) (c := c) (t := r)
      simp only [List.length_cons]; omega
/-- every member's list is no longer than the count -/
theorem addC_mem {b : List Bool} {c : Int} : ∀ {t : List (List Bool × List Int)} {p : List Bool × List Int}, p ∈ addC b c t → p ∈ t ∨ p.1 = b ∧ c ∈ p.2 ∧ ∃ l, p.2 = l ++ [c] ∧ (l = [] ∨ (b, l) ∈ t)
  | [], p, h => by
    simp only [addC, List.mem_singleton] at h
    subst h
    exact .inr ⟨rfl, by simp, [], by simp, .inl rfl⟩
  | (b', l) :: r, p, h => by
    unfold addC at h
    split at h
    · next e =>
      subst e
      rcases List.mem_cons.mp h with h | h
      · subst h
        exact .inr ⟨rfl, by simp, l, rfl, .inr List.mem_cons_self⟩
      · exact .inl (List.mem_cons_of_mem _ h)
    · rcases List.mem_cons.mp h with h | h
      · subst h
        exact .inl List.mem_cons_self
      · rcases addC_mem h with h | ⟨h1, h2, l', h3, h4⟩
        · exact .inl (List.mem_cons_of_mem _ h)
        · exact .inr ⟨h1, h2, l', h3, h4.imp_right (List.mem_cons_of_mem _)⟩
theorem grp_snoc (f : Int → List Bool) (cs : List Int) (c : Int) : grp f (cs ++ [c]) = addC (f c) c (grp f cs) := by
  unfold grp
  rw [List.foldl_append]; rfl
theorem grp_len (f : Int → List Bool) : ∀ cs : List Int, (grp f cs).length ≤ cs.length := fun cs => by
  suffices h : ∀ (cs : List Int) (s : List (List Bool × List Int)), (cs.foldl (fun s c => addC (f c) c s) s).length ≤ s.length + cs.length by
    have := h cs []
    simpa [grp] using this
  intro cs
  induction cs with
  | nil => intro s; simp
  | cons c cs ih =>
    intro s
    have h1 := ih (addC (f c) c s)
    have h2 := addC_len (b := f c) (c := c) (t := s)
    rw [List.foldl_cons, List.length_cons]
    omega
/-- lists of the table: what is in them, how long they are -/
theorem grp_mem (f : Int → List Bool) (cs : List Int) : ∀ p ∈ grp f cs, p.2 ≠ [] ∧ p.2.length ≤ cs.length ∧ ∀ c ∈ p.2, c ∈ cs ∧ f c = p.1 := by
  suffices h : ∀ (n : Nat) (cs : List Int), cs.length = n → ∀ p ∈ grp f cs, p.2 ≠ [] ∧ p.2.length ≤ cs.length ∧ ∀ c ∈ p.2, c ∈ cs ∧ f c = p.1 from h cs.length cs rfl
  intro n
  induction n with
  | zero =>
    intro cs h p hp
    rw [List.length_eq_zero_iff.mp h] at hp
    simp [grp] at hp
  | succ n ih =>
    intro cs h p hp
    rcases List.eq_nil_or_concat cs with e | ⟨l, c, e⟩
    · subst e; simp at h
    · rw [List.concat_eq_append] at e
      subst e
      have hl : l.length = n := by simpa using h
      rw [grp_snoc] at hp
      rw [List.length_append]
      rcases addC_mem hp with hp | ⟨h1, h2, l', h3, h4⟩
      · obtain ⟨q1, q2, q3⟩ := ih l hl p hp
        exact ⟨q1, by simp; omega, fun x hx => ⟨List.mem_append_left _ (q3 x hx).1, (q3 x hx).2⟩⟩
      · refine ⟨by rw [h3]; simp, ?_, fun x hx => ?_⟩
        · rw [h3, List.length_append]
          rcases h4 with h4 | h4
          · subst h4; simp
          · have := (ih l hl _ h4).2.1
            simp only [List.length_singleton]
            simp only at this
            omega
        · rw [h3] at hx
          rcases List.mem_append.mp hx with hx | hx
          · rcases h4 with h4 | h4
            · subst h4; simp at hx
            · obtain ⟨q1, q2⟩ := (ih l hl _ h4).2.2 x hx
              exact ⟨List.mem_append_left _ q1, by rw [h1]; exact q2⟩
          · have hx' : x = c := by simpa using hx
            subst hx'
            exact ⟨by simp, h1.symm⟩
/-! ### from a block's slots back to the def's -/
def restore (vs : List Nat) : Nat → List Slot → List Slot → List Slot
  | _, [], _ => []
  | i, s :: r, t => (if vs.contains i = true then t.headD .un else s) :: restore vs (i + 1) r t.tail
theorem restore_get (vs : List Nat) : ∀ (j : Nat) (a b : List Slot), a.length = b.length → (restore vs j a b).length = a.length ∧ ∀ i : Nat, (restore vs j a b)[i]? = if vs.contains (j + i) = true then b[i]? else a[i]?
  | j, [], b, h => by
    have : b = [] := List.length_eq_zero_iff.mp h.symm
    subst this
    exact ⟨rfl, fun i => by simp [restore]⟩
  | j, s :: r, [], h => by simp at h
  | j, s :: r, t :: b, h => by
    obtain ⟨h1, h2⟩ := restore_get vs (j + 1) r b (by simpa using h)
    refine ⟨by show (_ :: restore vs (j + 1) r b).length = _; rw [List.length_cons, h1, List.length_cons], fun i => ?_⟩
    cases i with
    | zero =>
      show some (if vs.contains j = true then t else s) = if vs.contains (j + 0) = true then some t else some s
      rw [Nat.add_zero]; split <;> rfl
    | succ i =>
      show (restore vs (j + 1) r b)[i]? = if vs.contains (j + (i + 1)) = true then b[i]? else r[i]?
      rw [h2 i, show j + 1 + i = j + (i + 1) by omega]
theorem bk_res {vs : List Nat} {a b : List Slot} (h : a.length = b.length) : Bk vs a (restore vs 0 a b) b := by
  obtain ⟨h1, h2⟩ := restore_get vs 0 a b h
  refine ⟨h1.trans h, fun i hi => ?_, fun i hi => ?_⟩
  · rw [h2 i, Nat.zero_add, if_neg (by simpa using hi)]
  · rw [h2 i, Nat.zero_add, if_pos (by simpa using hi)]
end Fb
end
section
namespace Fb
open PySem PySem.Spec PyProof.Rows L2
/-! ### defs over the law's box [digits, place] -/
abbrev bxS (ds : List Int) (at_ : Nat) : Slot := .lst [lI ds, .int (at_ : Nat)]
def BoxC (n : Nat) (R : List Int → Nat → List D → D → Nat → Prop) : Ct := fun δ d δ' => ∃ ds a as a', as.length = n ∧ δ = bxS ds a :: as.map .imm ∧ δ' = bxS ds a' :: as.map .imm ∧ R ds a as d a'
theorem fin_head {s s' : Slot} {as : List D} {r' r'' : List Slot} : Fin' (s :: as.map .imm) (s' :: r') (s' :: r'') := fun i t h w => by
  cases i with
  | zero => rfl
  | succ i =>
    rw [List.getElem?_cons_succ, List.getElem?_map] at h
    cases e : as[i]? with
    | none => rw [e] at h; cases h
    | some d => rw [e] at h; cases h; cases w
abbrev boxR (d : D) (ds : List Int) (a' : Nat) : Cn := { nx := fun δ1 => d = .none ∧ ∃ r, δ1 = bxS ds a' :: r, rt := fun e δ1 => e = d ∧ ∃ r, δ1 = bxS ds a' :: r }
theorem rg_box {ds : List Int} {a a' : Nat} {r : List Slot} : Rg (bxS ds a :: r) (bxS ds a' :: r) := ⟨by simp, fun i s h w => by
  cases i with
  | zero => simp at h; subst h; cases w
  | succ i => exact h⟩
theorem mk_box {g : Ga} {k i n : Nat} {x : Str} {N ps : List Str} {R : List Int → Nat → List D → D → Nat → Prop} (F : Fd g x i ps) (hn : ps.length = n + 1) (sc : FnScope N ps (defScope (top i)))
    (hbody : ∀ ds a as d a', as.length = n → R ds a as d a' → SDn ⟨g, k, N, defScope (top i), true, fun _ => false⟩ ps.length (defBody (top i)) (bxS ds a :: (as.map .imm ++ List.replicate (N.length - ps.length) .un)) (boxR d ds a')) : CallOk g (k + 1) x (BoxC n R) := by
  refine mk_call F sc (fun δ d δ' ⟨ds, a, as, a', h1, h2, h3, _⟩ => ⟨by rw [h2, List.length_cons, List.length_map, h1, hn], by rw [h2, h3]; exact rg_box⟩) fun δ d δ' ⟨ds, a, as, a', h1, h2, h3, h4⟩ => ?_
  subst h2 h3
  exact sdn_mono (hbody ds a as d a' h1 h4) (fun _ ⟨q, r, e⟩ => ⟨q, by rw [e]; exact fin_head⟩) (fun _ _ ⟨q, r, e⟩ => ⟨q, by rw [e]; exact fin_head⟩) (fun _ q => q) (fun _ q => q)
section
variable {S : Sc} {δ : List Slot}
theorem i_callB {x b : Str} {j i n : Nat} {s0 : Slot} {R : List Int → Nat → List D → D → Nat → Prop} {es : List Expr} {p0 p pos : Pos} {Q : D → List Slot → Prop} (c : CallOk S.g j x (BoxC n R)) (hj : j ≤ S.k) (hg : S.sc.names.lookup x = some .globalImplicit)
    (l0 : Look S.N δ b i s0) (w0 : s0.own = true) (hv : Vis S.sc b)
    (h : EaI S es δ fun as δ1 => as.length = n ∧ ∃ ds a d a' δ2, LookS S.N δ1 b i (bxS ds a) (bxS ds a') δ2 ∧ R ds a as d a' ∧ Q d δ2) (hdb : (x == ("__debug__" : Str)) = false := by decide)
    (hb1 : (b == ("__debug__" : Str)) = false := by decide) (hb2 : (b == ("__classdict__" : Str)) = false := by decide)
    (he : ∀ env, starEach (.Name b p0 :: es) env = (false, eval (.Name b p0) env) :: starEach es env := by intro _; rfl) (hpl : ∀ env, (backTo pos (starEach es env)).any (·.1) = false := by intro _; rfl) : EvD S (.Call (.Name x p) (.Name b p0 :: es) [] pos) δ Q := by
  refine ev_callO c hj hg (ea_own (hd := hb1) (hcd := hb2) l0 w0 hv (ea_mono h fun as δ1 ⟨ds, e1, hn, zs, a, d, a', δ2, lk, hr, q⟩ => ?_)) hdb he hpl
  refine ⟨[], ds, i, bxS zs a, bxS zs a', d, by rw [e1]; rfl, lk.slot, rfl, rfl, ⟨zs, a, ds, a', hn, rfl, rfl, hr⟩, ?_⟩
  rw [lk.eq]; exact q
end
/-! ### what the law's defs compute -/
def drw (ds : List Int) (a : Nat) (m : Int) : Int := if a < ds.length then ds.getD a 0 % m else 0
def brkL (h : Hist) (m : Int) : Nat → List Int
  | 0 => [m]
  | i + 1 => if m - i ∈ brkL h m i then brkL h m i ++ (parI h (m - i)).filter fun p => !decide (p ∈ brkL h m i) else brkL h m i
def brl (h : Hist) (c m : Int) : Bool := decide (c ∈ brkL h m (m + 1).toNat)
theorem foldA_mem : ∀ (ps f : List Int) (x : Int), x ∈ ps.foldl addI f ↔ x ∈ f ∨ x ∈ ps
  | [], f, x => by simp
  | p :: ps, f, x => by
    rw [List.foldl_cons, foldA_mem ps, List.mem_cons]
    unfold addI
    split
    · next h =>
      constructor
      · rintro (h1 | h1)
        · exact .inl h1
        · exact .inr (.inr h1)
      · rintro (h1 | h1 | h1)
        · exact .inl h1
        · subst h1; exact .inl h
        · exact .inr h1
    · rw [List.mem_append, List.mem_singleton, or_assoc]
theorem brkL_mem {h : Hist} {m x : Int} : ∀ i, x ∈ brkL h m i ↔ x ∈ ancK h m i
  | 0 => by simp [brkL, ancK]
  | i + 1 => by
    have ih : ∀ y, y ∈ brkL h m i ↔ y ∈ ancK h m i := fun y => brkL_mem i
    unfold brkL ancK ancStep
    by_cases c : m - i ∈ ancK h m i
    · rw [if_pos ((ih _).mpr c), if_pos c, List.mem_append, List.mem_filter, foldA_mem, Bool.not_eq_true', decide_eq_false_iff_not, ih]
      constructor
      · rintro (h1 | h1)
        · exact .inl h1
        · exact .inr h1.1
      · rintro (h1 | h1)
        · exact .inl h1
        · by_cases e : x ∈ ancK h m i
          · exact .inl e
          · exact .inr ⟨h1, e⟩
    · rw [if_neg (fun z => c ((ih _).mp z)), if_neg c]
      exact ih x
theorem brl_brk (h : Hist) (c m : Int) : brl h c m = brk h c m := by
  unfold brl brk anc
  rw [Bool.eq_iff_iff, decide_eq_true_eq, decide_eq_true_eq, sortI_mem]
  exact brkL_mem _
theorem brkL_len {h : Hist} (o : HOk h) {m : Int} : ∀ i, (brkL h m i).length ≤ 1 + 6 * i
  | 0 => by simp [brkL]
  | i + 1 => by
    have ih := brkL_len o (m := m) i
    unfold brkL
    split
    · rw [List.length_append]
      have := o.parLen (m - i)
      have := List.length_filter_le (fun p => !decide (p ∈ brkL h m i)) (parI h (m - i))
      omega
    · omega
end Fb
end
section
set_option autoImplicit false
namespace Fb
open PySem PySem.Spec PyProof.Rows L2
/-! ### an owned list walked by a comprehension -/
structure ItC (K : PySem.W.Frag) (M ad : List Addr) (σ : L2.St) (J : It) (ds : List D) (H1 : Hp) (V : List Slot → Prop) : Prop where
  go : ∀ i Dl H' δ2, i < ds.length → Same (mask M H1) (mask (Dl :: M) H') → Sm K (Dl :: M) H' ad δ2 σ → V δ2 → J.go i H'
  yld : ∀ i Dl H' δ2 x H'', Same (mask M H1) (mask (Dl :: M) H') → Sm K (Dl :: M) H' ad δ2 σ → V δ2 → J.yld i H' x H'' → Same H' H'' ∧ ∀ d, ds[i]? = some d → Da K (mask (Dl :: M) H'') x d
  stop : ∀ Dl H' δ2, Same (mask M H1) (mask (Dl :: M) H') → Sm K (Dl :: M) H' ad δ2 σ → V δ2 → J.stop ds.length H'
theorem itc_own {K : PySem.W.Frag} {M ad : List Addr} {σ : L2.St} {H : Hp} {ix : Nat} {ds : List D} : ItC K M ad σ (Itl K (ad.getD ix 0)) ds H (fun δ2 => δ2[ix]? = some (.lst ds)) where
  go := fun i Dl H' δ2 hi e sm v => by
    obtain ⟨_, _, us, q, a⟩ := sm.ok ix _ v
    have l := dpAll_len a
    exact ⟨us, us[i]'(by omega), SqL.of q, List.getElem?_eq_getElem (by omega)⟩
  yld := fun i Dl H' δ2 x H'' e sm v y => by
    obtain ⟨ee, y⟩ := y
    subst ee
    obtain ⟨_, _, us, q, a⟩ := sm.ok ix _ v
    refine ⟨Same.refl _, fun z hz => ?_⟩
    obtain ⟨w, e1, e2⟩ := dpAll_get a hz
    have e3 := y us (SqL.of q)
    rw [e1] at e3
    cases e3
    exact e2
  stop := fun Dl H' δ2 e sm v => by
    obtain ⟨_, _, us, q, a⟩ := sm.ok ix _ v
    exact ⟨us, SqL.of q, by rw [dpAll_len a]; exact Nat.le_refl _⟩
section
variable {S : Sc} {δ : List Slot}
/-- the reading of a comprehension -/
theorem lc_readV {V : List Slot → Prop} {X : Cx} (ok : S.Ok X) {tg elt : Expr} {ifs : List Expr} {scope : Scope} {vs : List Nat} {wi : TI} {Q : D → List Slot → Prop} {M ad : List Addr} {σ : L2.St} {H : Hp}
    (hk : ∀ M ad σ H, Sm S.g.K M H ad δ σ → ∀ R : It → Hp → Prop, (∀ J H1 δ1 ds, (ds.length ≤ 100000 ∧ ∃ I : Nat → List D → List Slot → Prop, I 0 [] δ1 ∧ (∀ i acc δ2, I i acc δ2 → V δ2) ∧
      (∀ (i : Nat) d acc δ2, ds[i]? = some d → I i acc δ2 → ∃ δ3, TgC (S.blk scope) tg vs d δ2 δ3 ∧ EifD (S.blk scope) ifs δ3 fun b δ4 =>
        (b = true → EvD (S.blk scope) elt δ4 fun y δ5 => ∃ δ6, Bk vs δ5 δ6 δ2 ∧ I (i + 1) (acc ++ [y]) δ6) ∧ (b = false → ∃ δ6, Bk vs δ4 δ6 δ2 ∧ I (i + 1) acc δ6)) ∧ ∀ acc δ2, I ds.length acc δ2 → Q (.list acc) δ2) →
      Stp S.g.K M ad σ δ H δ1 H1 → ItC S.g.K M ad σ J ds H1 V → R J H1) → wi σ H R) (sm : Sm S.g.K M H ad δ σ) {P : VK} (hP : ∀ v H' d δ', Q d δ' → Stp S.g.K M ad σ δ H δ' H' → Da S.g.K (mask M H') v d → P v H') :
    tLc wi (fun v σ H Q => ∀ X', (S.blk scope).Ok X' → TGx X' tg v σ H Q) (fun σ H Q => ∀ X', (S.blk scope).Ok X' → TIx X' ifs σ H Q) (fun σ H Q => ∀ X', (S.blk scope).Ok X' → TEx X' elt σ H Q) vs σ H P := by
  refine hk M ad σ H sm _ fun J H1 δ1 ds ⟨hlen, I, i0, iv, turn, fin⟩ st it Dl hD => ?_
  have nM : Dl ∉ M := st.sm.freshM hD
  have nH : H Dl = none := by
    cases e : H Dl with
    | none => rfl
    | some u =>
      by_cases w : Ow ad δ Dl
      · exact absurd (sm.owM w) nM
      · have := st.keep Dl u e w
        rw [hD] at this; cases this
  have em : mask (Dl :: M) (upd H1 Dl (.lst [])) = mask M H1 := by
    funext b
    by_cases hb : b ∈ M
    · rw [mask_in (List.mem_cons_of_mem _ hb), mask_in hb]
    · by_cases hd : b = Dl
      · subst hd
        rw [mask_in List.mem_cons_self, mask_out hb, hD]
      · rw [mask_out (by simp [hd, hb]), mask_out hb, upd_ne hd]
  have smU : Sm S.g.K (Dl :: M) (upd H1 Dl (.lst [])) ad δ1 σ := by
    refine ⟨st.sm.len, fun i s e => ?_, st.sm.inj, fun a ha => ?_⟩
    · have z := st.sm.ok i s e
      have hne : s.own = true → ad.getD i 0 ≠ Dl := fun w c => nM (by rw [← c]; exact (z.inM w).1)
      cases s with
      | un => trivial
      | imm d => obtain ⟨v, h1, h2⟩ := z; exact ⟨v, h1, by rw [em]; exact h2⟩
      | lst ds => obtain ⟨h1, h2, us, h3, h4⟩ := z; exact ⟨h1, List.mem_cons_of_mem _ h2, us, by rw [upd_ne (hne rfl)]; exact h3, by rw [em]; exact h4⟩
      | dct kvs => obtain ⟨h1, h2, us, h3, h4⟩ := z; exact ⟨h1, List.mem_cons_of_mem _ h2, us, by rw [upd_ne (hne rfl)]; exact h3, by unfold DctRel at h4 ⊢; rw [em]; exact h4⟩
      | pat kvs => obtain ⟨h1, h2, h3, h4, xs, h5, h6⟩ := z; exact ⟨h1, List.mem_cons_of_mem _ h2, h3, h4, xs, by rw [upd_ne (hne rfl)]; exact h5, by unfold PatRel at h6 ⊢; rw [em]; exact h6⟩
    · by_cases c : a = Dl
      · exact ⟨_, by rw [c, upd_same]⟩
      · obtain ⟨u, q⟩ := st.sm.tr a (by simpa [c] using ha)
        exact ⟨u, by rw [upd_ne c]; exact q⟩
  refine ⟨fun i m H' => m = ds.length - i ∧ i ≤ ds.length ∧ ∃ acc us δ2, I i acc δ2 ∧ acc.length ≤ i ∧ Sm S.g.K (Dl :: M) H' ad δ2 σ ∧ H' Dl = some (.lst us) ∧ DaAll S.g.K (mask (Dl :: M) H') us acc ∧ Keep ad δ H H' ∧ Shp δ δ2 ∧ Same (mask M H1) (mask (Dl :: M) H'),
    ⟨ds.length, rfl, Nat.zero_le _, [], [], δ1, i0, Nat.le_refl _, smU, upd_same, .nil, fun a o q n => by rw [upd_ne (ne_of_none q nH)]; exact st.keep a o q n, st.shp, by rw [em]; exact Same.refl _⟩, ?_⟩
  rintro i m H2 ⟨rfl, hi, acc, us, δ2, hI, hacc, sm2, hl2, da2, kp2, sh2, e2⟩
  have nOw : ∀ {δ' : List Slot}, Shp δ δ' → ¬ Ow ad δ' Dl := fun sh o => nM (sm.owM (sh.ow o))
  by_cases hlt : i < ds.length
  · have hd : ds[i]? = some ds[i] := List.getElem?_eq_getElem hlt
    refine .inr ⟨it.go i _ H2 δ2 hlt e2 sm2 (iv _ _ _ hI), fun H' => i + 1 ≤ ds.length ∧ ∃ acc us δ2, I (i + 1) acc δ2 ∧ acc.length ≤ i + 1 ∧ Sm S.g.K (Dl :: M) H' ad δ2 σ ∧ H' Dl = some (.lst us) ∧ DaAll S.g.K (mask (Dl :: M) H') us acc ∧ Keep ad δ H H' ∧ Shp δ δ2 ∧ Same (mask M H1) (mask (Dl :: M) H'),
      fun H' q => ⟨ds.length - (i + 1), by omega, rfl, q.1, q.2⟩, fun x H4 y => ?_⟩
    obtain ⟨y1, y2⟩ := it.yld i _ H2 δ2 x H4 e2 sm2 (iv _ _ _ hI) y
    have dx := y2 _ hd
    have sm4 := sm2.grow y1
    obtain ⟨δ3, tc, hif⟩ := turn i _ acc δ2 hd hI
    obtain ⟨g, hg, hgk⟩ := tc.ex
    intro X' ok'
    refine tg_of (hg X' ok') (hgk (Dl :: M) ad σ H4 x sm4 dx _ fun σ2 hw sm5 => ⟨hw, ?_⟩)
    intro X2 ok2
    have no2 : ∀ i : Nat, i ∈ vs → ∀ s, δ2[i]? = some s → s.own = false := fun i hi s => (tc.no i hi s).1
    have kp4 : Keep ad δ H H4 := fun a o q n => y1 a o (kp2 a o q n)
    have e4 : Same (mask M H1) (mask (Dl :: M) H4) := e2.trans (same_mask y1)
    have hl4 : H4 Dl = some (.lst us) := y1 _ _ hl2
    have sh3 : Shp δ δ3 := sh2.trans tc.shp
    -- behind a step from the target's slots
    have keep5 : ∀ {δ5 : List Slot} {H5 : Hp}, Stp S.g.K (Dl :: M) ad σ2 δ3 H4 δ5 H5 → H5 Dl = some (.lst us) ∧ DaAll S.g.K (mask (Dl :: M) H5) us acc ∧ Keep ad δ H H5 ∧ Shp δ δ5 ∧ Same (mask M H1) (mask (Dl :: M) H5) ∧ Same (mask (Dl :: M) H4) (mask (Dl :: M) H5) := fun {δ5 H5} st5 => by
      have s5 := sm5.same st5.keep
      exact ⟨st5.keep _ _ hl4 (nOw sh3), dpAll_mono (fun b u z => s5 b u (same_mask y1 b u z)) _ da2, fun a o q n => st5.keep a o (kp4 a o q n) fun w => n (sh3.ow w), sh3.trans st5.shp, e4.trans s5, s5⟩
    refine ti_mono (hif X2 ok2 (Dl :: M) ad σ2 H4 sm5) fun b H5 ⟨δ4, ⟨q1, q2⟩, st4⟩ => ?_
    cases b with
    | false =>
      rw [if_neg Bool.false_ne_true]
      obtain ⟨δ6, bk, i6⟩ := q2 rfl
      obtain ⟨k1, k2, k3, k4, k5, k6⟩ := keep5 st4
      have sm6 := st4.sm.bk sm4 hw bk no2 k6
      refine ⟨hlt, acc, us, δ6, i6, by omega, sm6, k1, k2, k3, fun j => ?_, k5⟩
      by_cases hj : j ∈ vs
      · rw [bk.inn j hj]; exact sh2 j
      · rw [bk.out j hj]; exact k4 j
    | true =>
      rw [if_pos rfl]
      intro X3 ok3
      refine te_mono (q1 rfl X3 ok3 (Dl :: M) ad σ2 H5 st4.sm) fun yv H6 ⟨yd, δ5, ⟨δ6, bk, i6⟩, st5, dy⟩ => ?_
      have st6 := st4.trans st5
      obtain ⟨k1, k2, k3, k4, k5, k6⟩ := keep5 st6
      have sm6 := st6.sm.bk sm4 hw bk no2 k6
      have sh6 : Shp δ δ6 := fun j => by
        by_cases hj : j ∈ vs
        · rw [bk.inn j hj]; exact sh2 j
        · rw [bk.out j hj]; exact k4 j
      refine ⟨us, k1, by rw [dpAll_len k2, sizeLine_eq]; omega, hlt, acc ++ [yd], us ++ [yv], δ6, i6, by rw [List.length_append, List.length_singleton]; omega, sm6.updM List.mem_cons_self (nOw sh6), upd_same, ?_, fun a o q n => ?_, sh6, ?_⟩
      · rw [mask_upd List.mem_cons_self]
        exact dpAll_append k2 (.cons dy .nil)
      · rw [upd_ne (ne_of_none q nH)]; exact k3 a o q n
      · rw [mask_upd List.mem_cons_self]; exact k5
  · have e : i = ds.length := by omega
    subst e
    refine .inl ⟨it.stop _ H2 δ2 e2 sm2 (iv _ _ _ hI), hP _ _ (.list acc) δ2 (fin acc δ2 hI) ⟨⟨sm2.len, fun i s e => ?_, sm2.inj, fun a ha => sm2.tr a (List.mem_cons_of_mem _ ha)⟩, kp2, sh2⟩ ?_⟩
    · refine (sm2.ok i s e).sub (fun b hb => List.mem_cons_of_mem _ hb) fun w => ?_
      exact sm.owM (sh2.ow ⟨i, s, e, w, rfl⟩)
    · refine .lst (xs := us) ?_ (dpAll_mono (mask_sub fun b hb => List.mem_cons_of_mem _ hb) _ da2)
      rw [mask_out nM]; exact hl2
/-- y = [elt for tg in x if ..], x an owned list -/
theorem sd_setlcO {α : Type} (c : α → D) {x y : Str} {py spos xpos : Pos} {tg elt : Expr} {ifs : List Expr} {scope : Scope} {pos : Pos} {C : Cn} {xs : List α} {ix : Nat} (own : List (Str × Nat)) (lx : Look S.N δ x ix (.lst (xs.map c))) (hvx : Vis S.sc x) (hlen : xs.length ≤ 100000)
    (hb : blkC S.N S.sc scope own = true) (hk : S.sc.kind = .function) (hy : S.sc.names.lookup y = some .local)
    (hl : (py.line == pos.line) = true) (ha : (scope.names.any fun (n, k) => n == y && (k == .local || k == .cell)) = false) {iy : Nat} (hN : S.N[iy]? = some y) (p : α → Bool) (f : α → D)
    (turn : ∀ x ∈ xs, ∃ δ3, TgC (S.blk scope) tg (own.map (·.2)) (c x) δ δ3 ∧ EifD (S.blk scope) ifs δ3 fun b δ4 => b = p x ∧ δ4 = δ3 ∧ (b = true → EvD (S.blk scope) elt δ3 fun y δ5 => y = f x ∧ δ5 = δ3))
    (fin : ∃ s δ3, LookS S.N δ y iy s (.imm (.list ((xs.filter p).map f))) δ3 ∧ s.own = false ∧ C.nx δ3)
    (hd : (x == ("__debug__" : Str)) = false := by decide) (hcd : (x == ("__classdict__" : Str)) = false := by decide)
    (hs : ∀ env v, foldedSetIterable (.Name x xpos) env v = pure v := by intro _ _; rfl) : SD S (.Assign [.Name y py] (.ListComp elt [⟨tg, .Name x xpos, ifs, 0⟩] scope pos) spos) δ C := by
  intro X ok B bo σ H ⟨M, ad, pt⟩
  have hkind : X.env.scope.kind = .function := by rw [ok.sc]; exact hk
  have hyl : X.env.scope.names.lookup y = some .local := by rw [ok.sc]; exact hy
  refine ts_of (ps_setLc (i := iy) (own := own) (g := fun v σ H Q => ∀ X', (S.blk scope).Ok X' → TGx X' tg v σ H Q) (tt := fun σ H Q => ∀ X', (S.blk scope).Ok X' → TIx X' ifs σ H Q) (te := fun σ H Q => ∀ X', (S.blk scope).Ok X' → TEx X' elt σ H Q) ok.calm (by rw [ok.N]; exact ok.nd)
    (by rw [ok.N]; exact hN) hyl (sw_true hkind hyl hl ha) (pi_list (pe_var (i := ix) (by rw [ok.N]; exact lx.name) (vis_of ok hvx) hd hcd)) (by rw [ok.N, ok.sc]; exact blkOk_by hb)
    (fun s H0 C cl fp => ⟨fun pins s σ H v u Q I r z => z _ (blk_ok ok) pins s u I r⟩) (fun s H0 C cl fp => ⟨fun pins s σ H Q I z => z _ (blk_ok ok) pins s I⟩) (fun s H0 C cl fp => ⟨fun pins s σ H Q I z => z _ (blk_ok ok) pins s I⟩) (hs _)) ?_
  refine lc_readV (V := fun δ2 => δ2[ix]? = some (.lst (xs.map c))) (Q := fun d δ2 => ∃ s δ3, LookS S.N δ2 y iy s (.imm d) δ3 ∧ s.own = false ∧ C.nx δ3) ok (fun M ad σ H sm R k => ?_) pt.sm fun v H' d δ' ⟨s, δ3, l, w, q⟩ st dv =>
    ⟨δ3, q, M, ad, by rw [← l.eq]; exact (pt.step st).set l.slot w dv⟩
  obtain ⟨e1, hM, us, e2, a2⟩ := sm.ok ix _ lx.slot
  refine ⟨_, slot_some e1, _, rfl, ⟨_, SqL.of e2⟩, ?_⟩
  rw [ok.K]
  refine k _ H δ (xs.map c) ⟨by rw [List.length_map]; exact hlen, fun i acc δ2 => δ2 = δ ∧ acc = ((xs.take i).filter p).map f, ⟨rfl, rfl⟩, fun i acc δ2 ⟨e, _⟩ => by rw [e]; exact lx.slot, ?_, ?_⟩ (.refl sm) itc_own
  · rintro i d acc δ2 hd ⟨rfl, rfl⟩
    rw [List.getElem?_map] at hd
    cases ex : xs[i]? with
    | none => rw [ex] at hd; cases hd
    | some x =>
      rw [ex] at hd
      cases hd
      obtain ⟨δ3, tc, hif⟩ := turn x (List.mem_of_getElem? ex)
      have tk : xs.take (i + 1) = xs.take i ++ [x] := by rw [List.take_succ, ex]; rfl
      refine ⟨δ3, tc, lc_turn (I1 := fun acc δx => δx = δ2 ∧ acc = ((xs.take (i + 1)).filter p).map f) tc hif (fun hb => ⟨rfl, ?_⟩) fun hb => ⟨rfl, ?_⟩⟩
      · rw [tk, List.filter_append, List.map_append, List.filter_cons, if_pos hb]; rfl
      · rw [tk, List.filter_append, List.map_append, List.filter_cons, if_neg (by rw [hb]; decide)]; simp
  · rintro acc δ2 ⟨rfl, rfl⟩
    rw [List.length_map, List.take_length]
    exact fin
end
end Fb
end
section
set_option autoImplicit false
namespace Fb
open PySem PySem.Spec PyProof.Rows L2
/-! ### lists inside a list that grow: the inner ones by their addresses, their content beside the slots -/
def rawD (a : Addr) : D := .dict [(.none, .int (a : Nat))]
theorem da_raw {K : PySem.W.Frag} {H : Hp} {v : V} {a : Addr} (h : Da K H v (rawD a)) : v = .ref a := by
  generalize e : rawD a = d at h
  cases h with
  | raw q =>
    subst q
    unfold rawD at e
    simp at e
    exact congrArg V.ref (Int.ofNat.inj e).symm
  | scr ns hs q =>
    subst q
    unfold rawD at e
    cases ns <;> simp at e
  | _ => unfold rawD at e; cases e
abbrev Gh := List (Addr × List Int)
structure GL (B : Bd) (M ad : List Addr) (δ : List Slot) (H : Hp) (L : Gh) : Prop where
  mem : ∀ p ∈ L, p.1 ∈ M ∧ ¬ Ow ad δ p.1 ∧ H p.1 = some (.lst (p.2.map V.int)) ∧ B.H0 p.1 = none
  nd : (L.map (·.1)).Nodup
structure CnG where
  nx : List Slot → Gh → Prop
  rt : D → List Slot → Prop
def endsG (K : PySem.W.Frag) (B : Bd) (C : CnG) (M : List Addr) (H : Hp) : Ends where
  nx := fun σ' H' => ∃ δ' L' M' ad', C.nx δ' L' ∧ Pt K B δ' σ' H' M' ad' ∧ GL B M' ad' δ' H' L' ∧ Same (mask M H) (mask M' H')
  rt := Rt K B C.rt
  bk := fun _ _ => False
  ct := fun _ _ => False
def SG1 (S : Sc) (n : Nat) (st : Stmt) (δ : List Slot) (L : Gh) (C : CnG) : Prop :=
  ∀ X, S.Ok X → ∀ B, BdOk B → B.δ0.length = n → ∀ σ H M ad, Pt S.g.K B δ σ H M ad → GL B M ad δ H L → TSx X st (endsG S.g.K B C M H) σ H
def SG (S : Sc) (n : Nat) (sts : List Stmt) (δ : List Slot) (L : Gh) (C : CnG) : Prop :=
  ∀ X, S.Ok X → ∀ B, BdOk B → B.δ0.length = n → ∀ σ H M ad, Pt S.g.K B δ σ H M ad → GL B M ad δ H L → TSsx X sts (endsG S.g.K B C M H) σ H
section
variable {K : PySem.W.Frag} {B : Bd} {δ δ1 : List Slot} {σ σ1 : L2.St} {H H1 : Hp} {M ad M1 ad1 : List Addr} {L : Gh}
theorem GL.keep (g : GL B M ad δ H L) (q : Pt K (Bd.here M H ad δ) δ1 σ1 H1 M1 ad1) : GL B M1 ad1 δ1 H1 L :=
  ⟨fun p hp => by
    obtain ⟨h1, h2, h3, h4⟩ := g.mem p hp
    refine ⟨q.sub _ h1, fun o => ?_, q.fr _ _ h3 h2, h4⟩
    rcases q.nw _ o with z | z
    · have z' : H p.1 = none := z
      rw [h3] at z'; cases z'
    · exact h2 z, g.nd⟩
theorem GL.step (g : GL B M ad δ H L) (st : Stp K M ad σ δ H δ1 H1) : GL B M ad δ1 H1 L :=
  ⟨fun p hp => let ⟨a, b, c, d⟩ := g.mem p hp; ⟨a, fun o => b (st.shp.ow o), st.keep _ _ c b, d⟩, g.nd⟩
theorem GL.grow (g : GL B M ad δ H L) (e : Same H H1) : GL B M ad δ H1 L :=
  ⟨fun p hp => let ⟨a, b, c, d⟩ := g.mem p hp; ⟨a, b, e _ _ c, d⟩, g.nd⟩
theorem GL.ow (g : GL B M ad δ H L) (e : ∀ a, Ow ad δ1 a → Ow ad δ a) : GL B M ad δ1 H L :=
  ⟨fun p hp => let ⟨a, b, c, d⟩ := g.mem p hp; ⟨a, fun o => b (e _ o), c, d⟩, g.nd⟩
theorem Weak.ow {δ δ' : List Slot} (w : Weak δ δ') {a : Addr} (o : Ow ad δ' a) : Ow ad δ a := by
  obtain ⟨i, s, e, z, q⟩ := o
  rcases w.at i s e with c | ⟨c, _⟩
  · exact ⟨i, s, c, z, q⟩
  · subst c; cases z
end
section
variable {S : Sc} {B : Bd} {δ : List Slot} {σ : L2.St} {H : Hp} {M ad : List Addr}
theorem sd_run {C : Cn} {X : Cx} {st : Stmt} (h : SD S st δ C) (ok : S.Ok X) (bo : BdOk B) (p : Pt S.g.K B δ σ H M ad) : TSx X st (endsAt S.g.K B (Bd.here M H ad δ) C) σ H := by
  intro pins s I
  refine thn (h X ok _ p.hereOk σ H ⟨M, ad, p.here⟩ pins s I) fun f s1 q => ?_
  cases f with
  | next => obtain ⟨σ', H', I', δ', c, M', ad', r⟩ := q; exact ⟨σ', H', I', δ', M', ad', c, p.comp bo r, r⟩
  | brk => obtain ⟨σ', H', I', δ', c, M', ad', r⟩ := q; exact ⟨σ', H', I', δ', M', ad', c, p.comp bo r, r⟩
  | cont => obtain ⟨σ', H', I', δ', c, M', ad', r⟩ := q; exact ⟨σ', H', I', δ', M', ad', c, p.comp bo r, r⟩
  | ret u => obtain ⟨v, σ', H', I', rv, r⟩ := q; exact ⟨v, σ', H', I', rv, r.comp bo p⟩
theorem tsG_up {X : Cx} {sts : List Stmt} {C : CnG} {M0 : List Addr} {H0 : Hp} {K : PySem.W.Frag} (h : TSsx X sts (endsG K B C M H) σ H) (e : Same (mask M0 H0) (mask M H)) : TSsx X sts (endsG K B C M0 H0) σ H := by
  intro pins s I
  refine thn (h pins s I) fun f s1 q => ?_
  cases f with
  | next => obtain ⟨σ', H', I', δ', L', M', ad', c, p, g, e'⟩ := q; exact ⟨σ', H', I', δ', L', M', ad', c, p, g, e.trans e'⟩
  | brk => exact q
  | cont => exact q
  | ret u => exact q
end
section
variable {S : Sc} {n : Nat} {δ : List Slot} {L : Gh} {C : CnG}
theorem sg_of {st : Stmt} (h : SD S st δ { nx := fun δ' => C.nx δ' L, rt := C.rt }) : SG1 S n st δ L C := by
  intro X ok B bo hn σ H M ad p g pins s I
  refine thn (sd_run h ok bo p pins s I) fun f s1 q => ?_
  cases f with
  | next => obtain ⟨σ', H', I', δ', M', ad', c, p1, p2⟩ := q; exact ⟨σ', H', I', δ', L, M', ad', c, p1, g.keep p2, p.view p2⟩
  | brk => obtain ⟨σ', H', I', δ', M', ad', c, _⟩ := q; exact False.elim c
  | cont => obtain ⟨σ', H', I', δ', M', ad', c, _⟩ := q; exact False.elim c
  | ret u => exact q
theorem sg_nil (q : C.nx δ L) : SG S n [] δ L C := fun X ok B bo hn σ H M ad p g => tss_of pss_nil ⟨δ, L, M, ad, q, p, g, Same.refl _⟩
theorem sg_one {st : Stmt} (h : SG1 S n st δ L C) : SG S n [st] δ L C := fun X ok B bo hn σ H M ad p g => tss_of (pss_one ps_x) (h X ok B bo hn σ H M ad p g)
theorem sg_cons {st : Stmt} {rest : List Stmt} (h : SG1 S n st δ L { C with nx := fun δ1 L1 => SG S n rest δ1 L1 C }) : SG S n (st :: rest) δ L C := by
  intro X ok B bo hn σ H M ad p g
  refine tss_of (pss_cons ps_x pss_x) fun pins s I => thn (h X ok B bo hn σ H M ad p g pins s I) fun f s1 q => ?_
  cases f with
  | next =>
    obtain ⟨σ', H', I', δ', L', M', ad', q, p', g', e'⟩ := q
    exact ⟨σ', H', I', tsG_up (q X ok B bo hn σ' H' M' ad' p' g') e'⟩
  | brk => exact q
  | cont => exact q
  | ret u => exact q
theorem sdn_sg {sts : List Stmt} {nx : List Slot → Prop} {rt : D → List Slot → Prop} (h : SG S n sts δ [] { nx := fun δ1 _ => nx δ1, rt := rt }) : SDn S n sts δ { nx := nx, rt := rt } := by
  intro X ok B bo hn σ H ⟨M, ad, p⟩ pins s I
  refine thn (h X ok B bo hn σ H M ad p ⟨fun _ z => (by cases z), List.nodup_nil⟩ pins s I) fun f s1 q => ?_
  cases f with
  | next => obtain ⟨σ', H', I', δ', L', M', ad', c, p', _⟩ := q; exact ⟨σ', H', I', δ', c, M', ad', p'⟩
  | brk => obtain ⟨σ', H', I', c⟩ := q; exact False.elim c
  | cont => obtain ⟨σ', H', I', c⟩ := q; exact False.elim c
  | ret u => exact q
theorem same_no {K : PySem.W.Frag} {M ad : List Addr} {σ : L2.St} {δv δ1 : List Slot} {H H1 : Hp} (hno : ∀ (i : Nat) s, δv[i]? = some s → s.own = false) (st : Stp K M ad σ δv H δ1 H1) : Same H H1 := fun a o z => st.keep a o z fun ⟨i, s, e1, w, _⟩ => by rw [hno i s e1] at w; cases w
/-- if, the test looked at another way -/
theorem sg_ifv {c : Expr} {a b : List Stmt} {pos : Pos} {δv : List Slot} (hv : ∀ K B M ad σ H, Pt K B δ σ H M ad → GL B M ad δ H L → Sm K [] H ad δv σ) (hno : ∀ (i : Nat) s, δv[i]? = some s → s.own = false)
    (h : EtD S c δv fun k _ => (k = true → SG S n a δ L C) ∧ (k = false → SG S n b δ L C)) : SG1 S n (.If c a b pos) δ L C := by
  intro X ok B bo hn σ H M ad p g
  refine ts_of (ps_if pt_x pss_x pss_x) (tt_mono (h X ok [] ad σ H (hv _ _ _ _ _ _ p g)) fun k H1 ⟨δ1, ⟨q1, q2⟩, st⟩ => ?_)
  have e := same_no hno st
  have p1 : Pt S.g.K B δ σ H1 M ad := p.step (.grow p.sm e)
  have g1 := g.grow e
  cases k with
  | true => rw [if_pos rfl]; exact tsG_up (q1 rfl X ok B bo hn σ H1 M ad p1 g1) (same_mask e)
  | false => rw [if_neg Bool.false_ne_true]; exact tsG_up (q2 rfl X ok B bo hn σ H1 M ad p1 g1) (same_mask e)
/-- return e, looked at another way -/
theorem sg_retv {e : Expr} {pos : Pos} {δv : List Slot} (hv : ∀ K B M ad σ H, BdOk B → B.δ0.length = n → Pt K B δ σ H M ad → GL B M ad δ H L → Sm K B.M0 H ad δv σ) (hno : ∀ (i : Nat) s, δv[i]? = some s → s.own = false)
    (h : EvD S e δv fun d _ => C.rt d δ) : SG1 S n (.Return (some e) pos) δ L C := by
  intro X ok B bo hn σ H M ad p g
  refine ts_of (ps_ret pe_x) (te_mono (h X ok B.M0 ad σ H (hv _ _ _ _ _ _ bo hn p g)) fun v H1 ⟨d, δ1, q, st, hd⟩ => ?_)
  have p1 : Pt S.g.K B δ σ H1 M ad := p.step (.grow p.sm (same_no hno st))
  refine ⟨d, δ, q, hd, p1.fr, fun i s e w => ?_⟩
  obtain ⟨e1, s', e2, w2⟩ := p1.ps i s e w
  have z := p1.sm.ok i s' e2
  rw [((p1.sm.ok i s' e2).inM w2).2.1, e1] at z
  exact ⟨s', e2, w2, z.sub p1.sub fun _ => bo.own i s e w⟩
/-- for -/
theorem sg_for {tg iter : Expr} {body : List Stmt} {pos : Pos}
    (h : EiD S tg iter δ fun ds δ1 => ∃ I : Nat → List Slot → Gh → Prop, I 0 δ1 L ∧
      (∀ (i : Nat) d δ2 L2, ds[i]? = some d → I i δ2 L2 → ∃ δ3, TgD S tg d δ2 δ3 ∧ (∀ ad a, Ow ad δ3 a → Ow ad δ2 a) ∧ SG S n body δ3 L2 { nx := fun δ4 L4 => ∃ δ5, Weak δ4 δ5 ∧ I (i + 1) δ5 L4, rt := C.rt }) ∧
      ∀ δ2 L2, I ds.length δ2 L2 → C.nx δ2 L2) (hs : ∀ env x, foldedSetIterable iter env x = pure x := by intro _ _; rfl) : SG1 S n (.For tg iter body [] pos) δ L C := by
  intro X ok B bo hn σ H M ad p g
  obtain ⟨wi, pi, k⟩ := h X ok
  refine ts_of (ps_for (g := TGx X tg) (tb := TSsx X body) (by rw [ok.xe]; exact PassesOwn.never) ok.calm pi pg_x pss_x (hs _)) ?_
  refine k M ad σ H p.sm _ fun J H1 δ1 ds ⟨I, i0, turn, fin⟩ st it => ?_
  have p1 := p.step st
  have e0 : Same (mask M H) (mask M H1) := p.sm.same st.keep
  refine ⟨fun i m σ' H' => m = ds.length - i ∧ i ≤ ds.length ∧ ∃ δ3 L3 M' ad', I i δ3 L3 ∧ Pt S.g.K B δ3 σ' H' M' ad' ∧ GL B M' ad' δ3 H' L3 ∧ Same (mask M H1) (mask M' H'), ⟨ds.length, rfl, Nat.zero_le _, δ1, L, M, ad, i0, p1, g.step st, Same.refl _⟩, ?_⟩
  rintro i m σ' H' ⟨rfl, hi, δ3, L3, M', ad', hI, p3, g3, e3⟩
  by_cases hlt : i < ds.length
  · have hd : ds[i]? = some ds[i] := List.getElem?_eq_getElem hlt
    refine .inr ⟨it.go i M' H' hlt e3, fun σ4 H4 => i + 1 ≤ ds.length ∧ ∃ δ5 L5 M' ad', I (i + 1) δ5 L5 ∧ Pt S.g.K B δ5 σ4 H4 M' ad' ∧ GL B M' ad' δ5 H4 L5 ∧ Same (mask M H1) (mask M' H4), fun σ4 H4 q => ⟨ds.length - (i + 1), by omega, rfl, q.1, q.2⟩, fun x H4 y => ?_⟩
    obtain ⟨y1, y2⟩ := it.yld i M' H' x H4 e3 p3.sm.tr y
    have dx := y2 _ hd
    have p4 : Pt S.g.K B δ3 σ' H4 M' ad' := p3.step (.grow p3.sm y1)
    have e4 : Same (mask M H1) (mask M' H4) := e3.trans (same_mask y1)
    obtain ⟨δ4, ⟨tgr, hg, hgk⟩, how, hb⟩ := turn i _ δ3 L3 hd hI
    refine tg_of (hg X ok) (hgk B M' ad' σ' H4 x p4 dx _ fun σ5 p5 => ?_)
    intro pins s I5
    refine thn (hb X ok B bo hn σ5 H4 M' ad' p5 ((g3.grow y1).ow (how ad')) pins s I5) fun f s1 q => ?_
    cases f with
    | next =>
      obtain ⟨σ6, H6, I6, δ6, L6, M6, ad6, ⟨δ7, w7, i7⟩, p6, g6, e6⟩ := q
      exact ⟨σ6, H6, I6, hlt, δ7, L6, M6, ad6, i7, p6.weak w7, g6.ow fun a o => w7.ow o, e4.trans e6⟩
    | cont => obtain ⟨σ6, H6, I6, c⟩ := q; exact False.elim c
    | brk => obtain ⟨σ6, H6, I6, c⟩ := q; exact False.elim c
    | ret u => exact q
  · have e : i = ds.length := by omega
    subst e
    exact .inl ⟨it.stop M' H' e3, δ3, L3, M', ad', fin δ3 L3 hI, p3, g3, e0.trans e3⟩
end
/-! ### a new thing that is hidden -/
section
variable {K : PySem.W.Frag} {B : Bd} {δ : List Slot} {σ : L2.St} {H : Hp} {M ad : List Addr} {q : Addr} {o : HO}
theorem mask_hide (nM : q ∉ M) (hq : H q = none) : mask (q :: M) (upd H q o) = mask M H := by
  funext b
  by_cases hb : b ∈ M
  · rw [mask_in (List.mem_cons_of_mem _ hb), mask_in hb]
  · by_cases hd : b = q
    · subst hd
      rw [mask_in List.mem_cons_self, mask_out hb, hq]
    · rw [mask_out (by simp [hd, hb]), mask_out hb, upd_ne hd]
theorem Sm.hide (h : Sm K M H ad δ σ) (hq : H q = none) : Sm K (q :: M) (upd H q o) ad δ σ := by
  have nM := h.freshM hq
  have em : mask (q :: M) (upd H q o) = mask M H := mask_hide nM hq
  have sH : Same H (upd H q o) := same_new hq
  refine ⟨h.len, fun i s e => ?_, h.inj, fun a ha => ?_⟩
  · have z := h.ok i s e
    cases s with
    | un => trivial
    | imm d => obtain ⟨v, h1, h2⟩ := z; exact ⟨v, h1, by rw [em]; exact h2⟩
    | lst ds => obtain ⟨h1, h2, us, h3, h4⟩ := z; exact ⟨h1, List.mem_cons_of_mem _ h2, us, sH _ _ h3, by rw [em]; exact h4⟩
    | dct kvs => obtain ⟨h1, h2, us, h3, h4⟩ := z; exact ⟨h1, List.mem_cons_of_mem _ h2, us, sH _ _ h3, by unfold DctRel at h4 ⊢; rw [em]; exact h4⟩
    | pat kvs => obtain ⟨h1, h2, h3, h4, xs, h5, h6⟩ := z; exact ⟨h1, List.mem_cons_of_mem _ h2, h3, h4, xs, sH _ _ h5, by unfold PatRel at h6 ⊢; rw [em]; exact h6⟩
  · by_cases c : a = q
    · exact ⟨o, by rw [c, upd_same]⟩
    · obtain ⟨u, z⟩ := h.tr a (by simpa [c] using ha)
      exact ⟨u, sH a u z⟩
theorem Pt.hide (bo : BdOk B) (pt : Pt K B δ σ H M ad) (hq : H q = none) : Pt K B δ σ (upd H q o) (q :: M) ad ∧ B.H0 q = none := by
  have nM := pt.sm.freshM hq
  have h0 : B.H0 q = none := by
    cases e : B.H0 q with
    | none => rfl
    | some u =>
      by_cases c : Ow B.ad0 B.δ0 q
      · obtain ⟨k, t, q1, q2, q3⟩ := c
        exact absurd (pt.sub q (by rw [← q3]; exact bo.own k t q1 q2)) nM
      · have := pt.fr q u e c
        rw [hq] at this; cases this
  refine ⟨⟨pt.sm.hide hq, fun a z => List.mem_cons_of_mem _ (pt.sub a z), fun a u e n => same_new hq a u (pt.fr a u e n), pt.ps, pt.nw, fun a ha => ?_⟩, h0⟩
  rcases List.mem_cons.mp ha with c | c
  · subst c; exact .inr h0
  · exact pt.fm a c
end
section
variable {S : Sc} {n : Nat} {δ : List Slot} {L : Gh} {C : CnG}
/-- x.append([y, [z]]) -/
theorem sg_appNew {x y z : Str} {np ap cp pos py pz l1 l2 : Pos} {ix iy iz : Nat} {ds : List D} {bs : List Bool} {c : Int} (lx : Look S.N δ x ix (.lst ds)) (hvx : Vis S.sc x) (ly : Look S.N δ y iy (.imm (lB bs))) (hvy : Vis S.sc y) (lz : Look S.N δ z iz (.imm (.int c))) (hvz : Vis S.sc z) (hlen : ds.length ≤ 1000)
    (h : ∀ a, ∃ δ2, LookS S.N δ x ix (.lst ds) (.lst (ds ++ [.list [lB bs, rawD a]])) δ2 ∧ C.nx δ2 (L ++ [(a, [c])]))
    (hx : (x == ("__debug__" : Str)) = false := by decide) (hx2 : (x == ("__classdict__" : Str)) = false := by decide) (hy : (y == ("__debug__" : Str)) = false := by decide) (hy2 : (y == ("__classdict__" : Str)) = false := by decide) (hz : (z == ("__debug__" : Str)) = false := by decide) (hz2 : (z == ("__classdict__" : Str)) = false := by decide)
    (s1 : ∀ env, starEach [.Name z pz] env = (false, eval (.Name z pz) env) :: starEach [] env := by intro _; rfl)
    (s2 : ∀ env, starEach [.List [.Name z pz] l2] env = (false, eval (.List [.Name z pz] l2) env) :: starEach [] env := by intro _; rfl)
    (s3 : ∀ env, starEach [.Name y py, .List [.Name z pz] l2] env = (false, eval (.Name y py) env) :: starEach [.List [.Name z pz] l2] env := by intro _; rfl)
    (s4 : ∀ env, starEach [.List [.Name y py, .List [.Name z pz] l2] l1] env = (false, eval (.List [.Name y py, .List [.Name z pz] l2] l1) env) :: starEach [] env := by intro _; rfl)
    (hline : (ap.endLine == cp.line) = true := by rfl) (hfew : ∀ env, ((backTo cp (starEach [.List [.Name y py, .List [.Name z pz] l2] l1] env)).all (fun x => !x.1) && (backToKw cp (keywordEach [] env)).all (fun x => x.1.isSome) && decide (([.List [.Name y py, .List [.Name z pz] l2] l1] : List Expr).length + ([] : List Keyword).length + (if ([] : List Keyword).isEmpty then 0 else 1) < 30)) = true := by intro _; rfl) :
    SG1 S n (.Expr (.Call (.Attribute (.Name x np) "append" ap) [.List [.Name y py, .List [.Name z pz] l2] l1] [] cp) pos) δ L C := by
  intro X ok B bo hn σ H M ad p g
  obtain ⟨e1, hM, us0, e2, a2⟩ := p.sm.ok ix _ lx.slot
  obtain ⟨vy, ey, dy⟩ := p.sm.ok iy _ ly.slot
  obtain ⟨vz, ez, dz⟩ := p.sm.ok iz _ lz.slot
  cases dz
  refine ts_of (ps_expr (pe_bm PySem.F.plainAttrs_list PySem.F.slot_list_append PySem.F.type_list_append mt_append (pe_var (i := ix) (by rw [ok.N]; exact lx.name) (vis_of ok hvx) hx hx2)
    (pa_cons (pe_lst (pa_cons (pe_var (i := iy) (by rw [ok.N]; exact ly.name) (vis_of ok hvy) hy hy2) (pa_cons (pe_lst (pa_cons (pe_var (i := iz) (by rw [ok.N]; exact lz.name) (vis_of ok hvz) hz hz2) pa_nil (s1 _))) pa_nil (s2 _)) (s3 _))) pa_nil (s4 _)) rfl (hfew _) hline (s4 _) rfl) rfl) ?_
  refine ⟨_, slot_some e1, .inl ⟨rfl, _, SqL.of e2⟩, ?_⟩
  refine ⟨_, slot_some ey, _, slot_some ez, by rw [sizeLine_eq]; simp, fun q hq => ⟨by rw [sizeLine_eq]; simp, fun m hm => ?_⟩⟩
  obtain ⟨p1, h0⟩ := p.hide (q := q) (o := .lst [.int c]) bo hq
  have nM : q ∉ M := p.sm.freshM hq
  have em : mask (q :: M) (upd H q (.lst [.int c])) = mask M H := mask_hide nM hq
  obtain ⟨f1, f2⟩ := new_lst (ds := [lB bs, rawD q]) p1.sm.tr hm (.cons (by rw [em]; exact dy) (.cons (.raw rfl) .nil))
  have p2 := p1.step (.grow p1.sm f1)
  obtain ⟨e3, hM3, us, e4, a4⟩ := p2.sm.ok ix _ lx.slot
  obtain ⟨δ2, lk, hC⟩ := h q
  refine ⟨_, us, _, rfl, rfl, e4, by rw [dpAll_len a4, sizeLine_eq]; omega, δ2, L ++ [(q, [c])], q :: M, ad, hC, ?_, ?_, ?_⟩
  · rw [← lk.eq]
    refine p2.step (p2.sm.put lk.slot rfl rfl ⟨rfl, hM3, us ++ [.ref m], upd_same, ?_⟩)
    rw [mask_upd hM3]
    exact dpAll_append a4 (.cons f2 .nil)
  · have how : ∀ a, Ow ad δ2 a → Ow ad δ a := fun a ⟨i, s, e, w, c⟩ => by
      rw [← lk.eq] at e
      by_cases z : ix = i
      · subst z; exact ⟨ix, _, lx.slot, rfl, c⟩
      · rw [List.getElem?_set_ne z] at e
        exact ⟨i, s, e, w, c⟩
    have hr : Ow ad δ (ad.getD ix 0) := ⟨ix, _, lx.slot, rfl, rfl⟩
    refine ⟨fun r hr2 => ?_, ?_⟩
    · rcases List.mem_append.mp hr2 with z | z
      · obtain ⟨a1, a2, a3, a4⟩ := g.mem r z
        refine ⟨List.mem_cons_of_mem _ a1, fun o => a2 (how _ o), ?_, a4⟩
        rw [upd_ne (fun e => a2 (by rw [e]; exact hr))]
        exact f1 _ _ (same_new hq _ _ a3)
      · rw [List.mem_singleton] at z
        subst z
        refine ⟨List.mem_cons_self, fun o => nM (p.sm.owM (how _ o)), ?_, h0⟩
        rw [upd_ne (fun e => nM (by have e' : q = ad.getD ix 0 := e; rw [e']; exact hM))]
        exact f1 _ _ upd_same
    · rw [List.map_append, List.nodup_append]
      refine ⟨g.nd, by simp, fun a ha b hb => ?_⟩
      obtain ⟨r, hr1, hr2⟩ := List.mem_map.mp ha
      have hb' : b = q := by simpa using hb
      rw [hb', ← hr2]
      intro e
      have := (g.mem r hr1).2.2.1
      rw [e, hq] at this; cases this
  · rw [mask_upd hM3, ← em]
    exact same_mask f1
/-- t.append(z), t an inner list -/
theorem sg_appIn {t : Expr} {z : Str} {ap cp pos pz : Pos} {iz j : Nat} {b : Addr} {ns : List Int} {c : Int} (ht : EvD S t δ fun d δ1 => d = rawD b ∧ δ1 = δ) (lz : Look S.N δ z iz (.imm (.int c))) (hvz : Vis S.sc z) (hj : L[j]? = some (b, ns)) (hlen : ns.length ≤ 1000) (q : C.nx δ (L.set j (b, ns ++ [c])))
    (hz : (z == ("__debug__" : Str)) = false := by decide) (hz2 : (z == ("__classdict__" : Str)) = false := by decide) (hbase : ∀ env, attributeBase t "append" env (eval t env) = eval t env := by intro _; rfl)
    (s1 : ∀ env, starEach [.Name z pz] env = (false, eval (.Name z pz) env) :: starEach [] env := by intro _; rfl)
    (hline : (ap.endLine == cp.line) = true := by rfl) (hfew : ∀ env, ((backTo cp (starEach [.Name z pz] env)).all (fun x => !x.1) && (backToKw cp (keywordEach [] env)).all (fun x => x.1.isSome) && decide (([.Name z pz] : List Expr).length + ([] : List Keyword).length + (if ([] : List Keyword).isEmpty then 0 else 1) < 30)) = true := by intro _; rfl) :
    SG1 S n (.Expr (.Call (.Attribute t "append" ap) [.Name z pz] [] cp) pos) δ L C := by
  intro X ok B bo hn σ H M ad p g
  refine ts_of (ps_expr (pe_bm PySem.F.plainAttrs_list PySem.F.slot_list_append PySem.F.type_list_append mt_append pe_x
    (pa_cons (pe_var (i := iz) (by rw [ok.N]; exact lz.name) (vis_of ok hvz) hz hz2) pa_nil (s1 _)) (hbase _) (hfew _) hline (s1 _) rfl) rfl) ?_
  refine te_mono (ht X ok M ad σ H p.sm) fun v H1 ⟨d, δ1, ⟨ed, e0⟩, st, dv⟩ => ?_
  subst ed e0
  have hv := da_raw dv
  subst hv
  have p1 := p.step st
  have g1 := g.step st
  obtain ⟨vz, ez, dz⟩ := p1.sm.ok iz _ lz.slot
  cases dz
  have hbm : (b, ns) ∈ L := List.mem_of_getElem? hj
  obtain ⟨b1, b2, b3, b4⟩ := g1.mem _ hbm
  have e0 : Same (mask M H) (mask M H1) := p.sm.same st.keep
  refine ⟨.inl ⟨rfl, _, SqL.of b3⟩, _, slot_some ez, _, _, _, rfl, rfl, b3, (by rw [List.length_map, sizeLine_eq]; show ns.length < _; omega), δ1, L.set j (b, ns ++ [c]), M, ad, q, ?_, ?_, ?_⟩
  · refine ⟨p1.sm.updM b1 b2, p1.sub, fun a o e w => ?_, p1.ps, p1.nw, p1.fm⟩
    rw [upd_ne]
    · exact p1.fr a o e w
    · intro e'
      have b4' : B.H0 b = none := b4
      have e2 : a = b := e'
      rw [e2, b4'] at e; cases e
  · refine ⟨fun r hr => ?_, ?_⟩
    · obtain ⟨k, hk⟩ := List.getElem?_of_mem hr
      by_cases e : j = k
      · subst e
        rw [List.getElem?_set_self (List.getElem?_eq_some_iff.mp hj).1] at hk
        cases hk
        refine ⟨b1, b2, ?_, b4⟩
        show upd H1 b _ b = _
        rw [upd_same, List.map_append]; rfl
      · rw [List.getElem?_set_ne e] at hk
        obtain ⟨a1, a2, a3, a4⟩ := g1.mem r (List.mem_of_getElem? hk)
        refine ⟨a1, a2, ?_, a4⟩
        rw [upd_ne]
        · exact a3
        · intro er
          apply e
          have h1 := (List.getElem?_eq_some_iff.mp hj)
          have h2 := (List.getElem?_eq_some_iff.mp hk)
          obtain ⟨l1, v1⟩ := h1
          obtain ⟨l2, v2⟩ := h2
          have := (List.getElem_inj (i := j) (j := k) (h₀ := by rw [List.length_map]; exact l1) (h₁ := by rw [List.length_map]; exact l2) g.nd).mp (by rw [List.getElem_map, List.getElem_map, v1, v2]; exact er.symm)
          exact this
    · have : (L.set j (b, ns ++ [c])).map (·.1) = L.map (·.1) := by
        refine List.ext_getElem? fun k => ?_
        rw [List.getElem?_map, List.getElem?_map]
        by_cases e : j = k
        · subst e
          rw [List.getElem?_set_self (List.getElem?_eq_some_iff.mp hj).1, hj]; rfl
        · rw [List.getElem?_set_ne e]
      rw [this]; exact g.nd
  · rw [mask_upd b1]; exact e0
/-- a look at slots without owned things -/
theorem Sm.look {K : PySem.W.Frag} {M N ad : List Addr} {H : Hp} {δ δv : List Slot} {σ : L2.St} (h : Sm K M H ad δ σ) (sub : ∀ a ∈ N, a ∈ M) (hl : δv.length = δ.length) (hs : ∀ (i : Nat) t, δv[i]? = some t → t.own = false ∧ SlotOk K N H (σ.getD i none) (ad.getD i 0) t) : Sm K N H ad δv σ :=
  ⟨by rw [h.len, hl], fun i t e => (hs i t e).2, fun i j s t a b c _ _ => (by rw [(hs i s a).1] at c; cases c), fun a ha => h.tr a (sub a ha)⟩
/-! ### the parts: a row of truth values, an inner list -/
abbrev Prt := List Bool × Addr × List Int
def prtR (p : Prt) : D := .list [lB p.1, rawD p.2.1]
def prtA (p : Prt) : D := .list [lB p.1, lI p.2.2]
theorem view_parts {K : PySem.W.Frag} {B : Bd} {M N ad : List Addr} {H : Hp} {δ : List Slot} {L : Gh} (g : GL B M ad δ H L) (hN : ∀ p ∈ L, p.1 ∉ N) (sub : ∀ a ∈ N, a ∈ M) : ∀ (qs : List Prt) {vs : List V}, (∀ q ∈ qs, q.2 ∈ L) → DaAll K (mask M H) vs (qs.map prtR) → DaAll K (mask N H) vs (qs.map prtA)
  | [], _, _, h => by cases h; exact .nil
  | q :: qs, _, hq, h => by
    cases h with
    | cons h1 h2 =>
      refine .cons ?_ (view_parts g hN sub qs (fun p hp => hq p (List.mem_cons_of_mem _ hp)) h2)
      cases h1 with
      | lst hs ha =>
        cases ha with
        | cons d1 d2 =>
          cases d2 with
          | cons d3 d4 =>
            cases d4
            have e := da_raw d3
            subst e
            have hm := hq q List.mem_cons_self
            refine .lst (mask_sub sub _ _ hs) (.cons (dp_mono (mask_sub sub) _ d1) (.cons (.lst (xs := q.2.2.map V.int) ?_ (ints_dpAll _)) .nil))
            rw [mask_out (hN _ hm)]
            exact (g.mem _ hm).2.2.1
end
section
variable {K : PySem.W.Frag} {B : Bd} {δ : List Slot} {σ : L2.St} {H : Hp} {M N ad : List Addr} {n i : Nat} {s : Slot}
/-- an owned thing that is no argument is young -/
theorem own_new (bo : BdOk B) (hn : B.δ0.length = n) (p : Pt K B δ σ H M ad) (hi : n ≤ i) (e : δ[i]? = some s) (w : s.own = true) : ad.getD i 0 ∉ B.M0 := by
  have n0 : B.H0 (ad.getD i 0) = none := by
    rcases p.nw _ ⟨i, _, e, w, rfl⟩ with z | ⟨m, t, q1, q2, q3⟩
    · exact z
    · obtain ⟨c1, t', c2, c3⟩ := p.ps m t q1 q2
      have em : m = i := p.sm.inj m i t' _ c2 e c3 w (by rw [c1, q3])
      have := (List.getElem?_eq_some_iff.mp q1).1
      omega
  intro c
  obtain ⟨o, ho⟩ := bo.tr _ c
  rw [n0] at ho; cases ho
theorem look_one (h : Sm K M H ad δ σ) (sub : ∀ a ∈ N, a ∈ M) {m j : Nat} {d : D} (hm : δ.length = m) (hs : SlotOk K N H (σ.getD j none) (ad.getD j 0) (.imm d)) : Sm K N H ad ((List.replicate m .un).set j (.imm d)) σ := by
  refine h.look sub (by rw [List.length_set, List.length_replicate, hm]) fun i t e => ?_
  by_cases c : j = i
  · subst c
    by_cases hl : j < (List.replicate m Slot.un).length
    · rw [List.getElem?_set_self hl] at e
      cases e
      exact ⟨rfl, hs⟩
    · rw [List.getElem?_eq_none (by rw [List.length_set]; omega)] at e
      cases e
  · rw [List.getElem?_set_ne c, List.getElem?_replicate] at e
    split at e
    · cases e; exact ⟨rfl, trivial⟩
    · cases e
theorem no_one {m j : Nat} {d : D} : ∀ (i : Nat) t, ((List.replicate m Slot.un).set j (.imm d))[i]? = some t → t.own = false := fun i t e => by
  by_cases c : j = i
  · subst c
    by_cases hl : j < (List.replicate m Slot.un).length
    · rw [List.getElem?_set_self hl] at e
      cases e; rfl
    · rw [List.getElem?_eq_none (by rw [List.length_set]; omega)] at e
      cases e
  · rw [List.getElem?_set_ne c, List.getElem?_replicate] at e
    split at e
    · cases e; rfl
    · cases e
end
/-! ### x = [..], x a name that blocks look at -/
theorem sw_cell {elt : Expr} {gs : List Comprehension} {scope : Scope} {pos py : Pos} {y : Str} {l : Nat} {env : Env} (hy : env.scope.names.lookup y = some .cell) : swapsWith (.ListComp elt gs scope pos) (some (.Name y py)) l env = pure false := by
  have ky : env.kindOf y = some .cell := hy
  have e : ((some NameKind.cell : Option NameKind) == some NameKind.local) = false := by decide
  unfold swapsWith
  simp only [ky, e, Bool.and_false, Bool.false_and]
theorem sd_setC {S : Sc} {δ : List Slot} {C : Cn} {x : Str} {pos' pos p2 : Pos} {elt : Expr} {gs : List Comprehension} {scope : Scope} (h : EvD S (.ListComp elt gs scope p2) δ fun d δ1 => ∃ i s δ2, LookS S.N δ1 x i s (.imm d) δ2 ∧ s.own = false ∧ C.nx δ2) (hx : S.sc.names.lookup x = some .cell) (ht : S.top = true) :
    SD S (.Assign [.Name x pos'] (.ListComp elt gs scope p2) pos) δ C := by
  intro X ok B bo σ H ⟨M, ad, p⟩
  intro pins s I
  refine wpAny_Assign_Name (thn (h X ok M ad σ H p.sm pins s I) fun u s1 ⟨v, H1, I1, r1, d, δ1, ⟨i, sl, δ2, l, w, q⟩, st, hd⟩ => ?_) (sw_cell (by rw [ok.sc]; exact hx))
  exact store_ok I1 (by rw [ok.N]; exact ok.nd) (by rw [ok.N]; exact l.name) (loc_of ok (.inr hx)) r1 (fun s2 I2 => ⟨_, H1, I2, δ2, q, M, ad, by rw [← l.eq]; exact (p.step st).set l.slot w hd⟩) (fn_or ok (.inl ht))
end Fb
end
section
namespace Fb
open PySem PySem.Spec PyProof.Rows L2
section
variable {S : Sc} {δ : List Slot} {C : Cn}
theorem rgV_upto {n : Int} : rgV 0 n = (upto n.toNat).map V.int := by
  unfold rgV upto
  rw [Int.sub_zero, List.map_map]
  exact List.map_congr_left fun i _ => by show V.int (0 + (i : Int)) = V.int i; rw [Int.zero_add]
/-- tuple(range(e)) -/
theorem i_tupR {e : Expr} {p p2 pos pos2 : Pos} {Q : D → List Slot → Prop} (hg : S.sc.names.lookup ("tuple" : Str) = some .globalImplicit) (hm : S.g.mg "tuple" = none) (hg2 : S.sc.names.lookup ("range" : Str) = some .globalImplicit) (hm2 : S.g.mg "range" = none)
    (h : EvD S e δ fun d δ1 => ∃ n, d = .int n ∧ 0 ≤ n ∧ n ≤ 1000000 ∧ Q (tI (upto n.toNat)) δ1) (na : ∀ env, starEach [e] env = (false, eval e env) :: starEach [] env := by intro _; rfl) (nb : ∀ env, starEach [.Call (.Name "range" p2) [e] [] pos2] env = (false, eval (.Call (.Name "range" p2) [e] [] pos2) env) :: starEach [] env := by intro _; rfl) :
    EvD S (.Call (.Name "tuple" p) [.Call (.Name "range" p2) [e] [] pos2] [] pos) δ Q := by
  intro X ok M ad σ H sm
  refine te_of (pe_tupRg ok.calm (gl_of ok hg) (mg_of' ok hm) (prg_1 (gl_of ok hg2) (mg_of' ok hm2) pe_x (na _)) (nb _)) ?_
  refine te_mono (h X ok M ad σ H sm) fun v H1 ⟨d, δ1, ⟨n, e1, h0, h1, q⟩, st, dv⟩ => ?_
  subst e1
  cases dv
  refine ⟨n, rfl, .of_le (by omega) (by omega) (by omega) h0, fun l hn => ?_⟩
  rw [rgV_upto]
  obtain ⟨e, d⟩ := new_tup st.sm.tr hn (ints_dpAll (upto n.toNat))
  exact ⟨_, δ1, q, st.trans (.grow st.sm e), d⟩
/-- target = e -/
theorem sd_asg {tg e : Expr} {pos : Pos} (h : EvD S e δ fun d δ1 => ∃ δ2, TgD S tg d δ1 δ2 ∧ C.nx δ2)
    (hs : ∀ env, swapsWithSole [tg] e pos.line env = pure false := by intro _; rfl) (hw : ∀ env, swappedStores [tg] e env = pure none := by intro _; rfl)
    (h1 : ∀ env, (assignEach [tg] env).map (·.2) = [assign tg env] := by intro _; rfl) : SD S (.Assign [tg] e pos) δ C := by
  intro X ok B bo σ H ⟨M, ad, p⟩
  refine ts_of (ps_asg (g := TGx X tg) pe_x pg_x (hs _) (hw _) (h1 _)) ?_
  refine te_mono (h X ok M ad σ H p.sm) fun v H1 ⟨d, δ1, ⟨δ2, tc, q⟩, st, dv⟩ => ?_
  obtain ⟨g, hp, k⟩ := tc
  exact tg_of (hp X ok) (k B M ad σ H1 v (p.step st) dv _ fun σ2 p2 => ⟨δ2, q, M, ad, p2⟩)
end
/-! ### t[::-1] -/
section
variable {prog : Program} {w : World} {A : Around} {E : Value → Shared → Prop} {s : Shared}
theorem fm_congr {α β : Type} {f g : α → Option β} : ∀ l : List α, (∀ x ∈ l, f x = g x) → l.filterMap f = l.filterMap g
  | [], _ => rfl
  | x :: l, h => by rw [List.filterMap_cons, List.filterMap_cons, h x List.mem_cons_self, fm_congr l fun y hy => h y (List.mem_cons_of_mem _ hy)]
theorem rev_pick (xs : Array Value) : ((List.range xs.size).filterMap fun (k : Nat) => xs[((xs.size : Int) - 1 + (k : Int) * (-1)).toNat]?).toArray = xs.toList.reverse.toArray := by
  congr 1
  refine List.ext_getElem? fun i => ?_
  have key : (List.range xs.size).filterMap (fun (k : Nat) => xs[((xs.size : Int) - 1 + (k : Int) * (-1)).toNat]?) = (List.range xs.size).filterMap fun (k : Nat) => xs.toList.reverse[k]? := by
    refine fm_congr _ fun k hk => ?_
    have hk' := List.mem_range.mp hk
    rw [List.getElem?_reverse (by rw [Array.length_toList]; exact hk'), Array.length_toList, Array.getElem?_toList]
    congr 1
    omega
  have all : ∀ (l : List Value) (n : Nat), n ≤ l.length → (List.range n).filterMap (fun k => l[k]?) = l.take n := by
    intro l n
    induction n with
    | zero => intro _; simp
    | succ n ih =>
      intro h
      rw [List.range_succ, List.filterMap_append, ih (by omega), List.take_succ, List.getElem?_eq_getElem (by omega : n < l.length)]
      simp [List.getElem?_eq_getElem (by omega : n < l.length)]
  rw [key, all _ _ (by rw [List.length_reverse, Array.length_toList]; exact Nat.le_refl _), List.take_of_length_le (by rw [List.length_reverse, Array.length_toList]; exact Nat.le_refl _)]
theorem rev_places (n : Nat) : Builtin.Slice.slicePlaces ((n : Int) - 1) (-1) (-1) = n := by
  unfold Builtin.Slice.slicePlaces
  rw [if_neg (by omega), Int.neg_neg, Int.ediv_one]
  split <;> omega
theorem rev_applied {sl : Addr} {n : Nat} {vs : Value} {Q : Int × Int × Nat → Shared → Prop} (hs : s.heap.IsSliceOf sl .none .none vs) (ps : IsPart vs (some (-1))) (h : Q ((n : Int) - 1, -1, n) s) :
    wpAny (model prog w) A (Builtin.Slice.sliceApplied (.ref sl) (pure (n : Int))) Q E s := by
  obtain ⟨os, hos, hcs, hds⟩ := id hs
  unfold Builtin.Slice.sliceApplied Builtin.Slice.sliceFields
  refine wpAny_bind (wpAny_bind (wpAny_field hos hds (x := .none) rfl (wpAny_bind (wpAny_field hos hds (x := .none) rfl (wpAny_bind (wpAny_field hos hds (x := vs) rfl (wpAny_pure ?_)))))))
  cases ps
  refine wpAny_bind (slicePart_int ?_)
  show wpAny _ _ (if ((-1 : Int) == 0) = true then _ else _) _ _ s
  rw [if_neg (by decide)]
  refine wpAny_bind (slicePart_none (wpAny_bind (slicePart_none (wpAny_bind (wpAny_pure ?_)))))
  show wpAny _ _ (pure ((n : Int) - 1, (-1 : Int), Builtin.Slice.slicePlaces ((n : Int) - 1) (-1) (-1))) _ _ s
  rw [rev_places]
  exact wpAny_pure h
theorem getItem_rev {t sl : Addr} {items : Array Value} {vs : Value} {Q : Value → Shared → Prop} (ht : IsTup s.heap t items) (hs : s.heap.IsSliceOf sl .none .none vs) (ps : IsPart vs (some (-1)))
    (h : Q (.ref s.heap.objs.size) { s with heap := s.heap.push { cls := .type "tuple", data := .seq items.toList.reverse.toArray } }) (hsz : items.size ≤ sizeLine) : wpAny (model prog w) A (getItem (.ref t) (.ref sl)) Q E s := by
  have hok : sizeOk (.seq items.toList.reverse.toArray) := by
    show items.toList.reverse.toArray.size ≤ sizeLine
    rw [List.size_toArray, List.length_reverse, Array.length_toList]
    exact hsz
  obtain ⟨os, hos, hcs, _⟩ := id hs
  have tyS : s.TypeIs (.ref sl) "slice" := ⟨os, hos, hcs⟩
  unfold getItem
  try with_reducible refine wpAny_holding ?_
  first | refine wpAny_bind (wpAny_pure ?_) | skip
  refine wpAny_bind (wpAny_sequenceKey ht.typeIs (by decide) ?_)
  refine wpAny_bind (wpAny_callSpecial?_slot (name := Str.ofString "__getitem__") ht.typeIs PyProof.Rows.slot_tuple_getitem
    (wpAny_call_entry PyProof.Rows.slot_tuple_getitem ht.typeIs entry_tuple_getitem ?_ (args_tuple_getitem _ _)))
  show wpAny _ _ (Builtin.Tuple.tupleItemsOf (.ref t) >>= _) _ _ s
  refine wpAny_bind (tupleItemsOf_ ht (wpAny_bind (wpAny_typeOf tyS ?_)))
  rw [if_pos (by decide)]
  refine wpAny_bind (rev_applied hs ps ?_)
  have no : ¬ (((items.size : Int) - 1 == 0 && (-1 : Int) == 1 && items.size == items.size) = true) := by
    rw [show ((-1 : Int) == 1) = false by decide]; simp
  show wpAny _ _ (if ((items.size : Int) - 1 == 0 && (-1 : Int) == 1 && items.size == items.size) = true then _ else _) _ _ s
  rw [if_neg no, rev_pick items]
  first
    | exact wpAny_bind (m := Builtin.Tuple.tupleExact _) (wpAny_newObj_type (wpAny_pure ⟨_, rfl, wpAny_pure h⟩) hok)
    | exact wpAny_bind (m := Builtin.Tuple.tupleExact _) (wpAny_newObj_type (wpAny_bind (wpAny_pure (wpAny_pure ⟨_, rfl, wpAny_pure h⟩))) hok)
    | exact wpAny_bind (wpAny_bind (m := Builtin.Tuple.tupleExact _) (wpAny_newObj_type (wpAny_pure (wpAny_pure ⟨_, rfl, wpAny_pure h⟩)) hok))
    | exact wpAny_bind (wpAny_bind (m := Builtin.Tuple.tupleExact _) (wpAny_newObj_type (wpAny_pure ⟨_, rfl, wpAny_pure h⟩) hok))
end
section
variable {S : Sc} {δ : List Slot}
theorem ev_revT {e : Expr} {k : Nat} {p1 p2 p3 pos : Pos} {Q : D → List Slot → Prop} (h : EvD S e δ fun d δ1 => ∃ ds, d = .tuple ds ∧ Q (.tuple ds.reverse) δ1) :
    EvD S (.Subscript e (.Slice none none (some (.UnaryOp .USub (.Constant (.int 1) k p1) p2)) p3) pos) δ Q := by
  intro X ok M ad σ H sm pins s I
  refine Subscript_ (thn (h X ok M ad σ H sm pins s I) fun v s1 ⟨x, H1, I1, r1, d, δ1, ⟨ds, ed, q⟩, st, dv⟩ => ?_)
  subst ed
  cases dv with
  | tup hx ax =>
    rename_i a us
    cases r1
    have one : PO X (some (.UnaryOp .USub (.Constant (.int 1) k p1) p2)) (tPart (tUn (rU fun i => .int (-i)) (tC (.int 1)))) := po_some (pe_un un_neg pe_int)
    refine wpAny_Slice (thn (po_none.run pins s1 σ H1 (fun o H2 => o = none ∧ H2 = H1) I1 ⟨rfl, rfl⟩) fun vl s2 ⟨l, H2, I2, pl, el, e2⟩ => ?_)
    subst el e2
    refine thn (po_none.run pins s2 σ H2 (fun o H3 => o = none ∧ H3 = H2) I2 ⟨rfl, rfl⟩) fun vu s3 ⟨u, H3, I3, pu, eu, e3⟩ => ?_
    subst eu e3
    refine thn (one.run pins s3 σ H3 (fun o H4 => o = some (-1) ∧ H4 = H3) I3 ⟨1, rfl, -1, rfl, rfl, rfl⟩) fun vs s4 ⟨o, H4, I4, ps, eo, e4⟩ => ?_
    subst eo e4
    cases pl
    cases pu
    have I5 : Inv X pins σ H4 { s4 with heap := s4.heap.push { cls := .type "slice", data := .fields #[.none, .none, vs] } } := I4.kept (t' := s4.toks) fun b ob q => Heap.get?_push_of_some _ q
    obtain ⟨its, r, ht, hz⟩ := I5.tuple (SqT.of (mask_some hx).2)
    have hlen := r.length
    show wpAny (model X.prog X.w) X.A (subscriptTail e (.Slice none none (some (.UnaryOp .USub (.Constant (.int 1) k p1) p2)) p3) (.ref a) (.ref s4.heap.objs.size)) (EP X pins σ _) X.xe { s4 with heap := s4.heap.push { cls := .type "slice", data := .fields #[.none, .none, vs] } }
    refine tail_any (ops := [.ref a, .ref s4.heap.objs.size]) ht.typeIs (PyProof.Rows.slot_tuple_getitem.lookup) ?_ (by with_unfolding_all rfl)
    refine getItem_rev ht (Heap.IsSliceOf.new _ .none .none vs) ps ?_ (by rw [List.size_toArray]; omega)
    refine ⟨.ref _, _, I5.laid (t' := s4.toks) (o := .tup us.reverse) (fun b ob q => Heap.get?_push_of_some _ q) (Nat.le_refl _) ?_, rfl, ?_⟩
    · exact ⟨by rw [List.length_reverse]; exact hz, _, r.reverse, IsTup.new _ _⟩
    · obtain ⟨e, d⟩ := new_tup st.sm.tr (I5.hok.fresh (Nat.le_refl _)) (dpAll_reverse ax)
      exact ⟨_, δ1, q, st.trans (.grow st.sm e), d⟩
/-- repr(t), t a tuple of shown data -/
theorem c_repr {ts : List D} (hl : (PyData.tuple ts).canLay0 = true) (hs : (PyData.tuple ts).showable = true) (hd : (PyData.tuple ts).hasDict = false) (hdep : (PyData.tuple ts).depth ≤ 60) (hz : (PyData.tuple ts).shown.length ≤ sizeLine) : CallD S (.builtin "repr") [.tuple ts] (.str (PyData.tuple ts).shown) := fun X ok M H vs tr d => by
  cases d with
  | cons d1 d2 =>
    cases d2
    intro pins s σ us I rx
    cases rx with
    | cons r1 r2 =>
      cases r2
      cases d1 with
      | tup hx ax =>
        cases r1
        obtain ⟨as, rd⟩ := Dp.reads I (.tuple ts) _ _ (by rw [ok.K]; exact da_dp _ hl (dp_up (.tup hx ax))) (show RelV (.ref _) (.ref _) from rfl)
        refine repr_of_reads' rd hs (fun z => by rw [hd] at z; cases z) ok.gd (by have := ok.room.un; omega) (fun _ _ e => e) (fun h' u tk hk => ?_) hz
        exact ⟨.str _, H, I.kept (t' := tk) hk, ⟨u, rfl⟩, Same.refl _, .str _⟩
end
end Fb
end
section
namespace Fb
open PySem PySem.Spec PyProof.Rows L2
/-! ### dicts keyed by tuples of truth values -/
abbrev bK (P : Program) (w : World) : HeapKind P w (List Bool) := tupleKind (PpSet.boolK P w)
theorem bools_are {P : Program} {w : World} : ∀ {k : List Bool} {us : List Value}, Vals (k.map V.bl) us → ItemsAre (PpSet.boolK P w) k us
  | [], _, r => by cases r; exact .nil
  | b :: k, _, r => by
    cases r with
    | cons r1 r2 =>
      cases r1
      exact .cons (PpSet.boolK_is P w b) (bools_are r2)
section
variable {X : Cx} {pins : List (Addr × Obj)} {σ : L2.St} {H : Hp} {s : Shared} {a b : Addr} {k : List Bool} {xs : List (List Bool × Addr × Value)}
theorem bkey (I : L2.Inv X pins σ H s) (e : H b = some (.tup (k.map V.bl))) : (bK X.prog X.w).is s.heap k b := by
  obtain ⟨_, its, r, o, h1, h2, n, h3⟩ := (show ObjOk X.prog X.w H s.heap b (.tup (k.map V.bl)) from I.hok b _ e)
  exact ⟨o, its.toArray, n, h1, h2, h3, by simpa using bools_are r⟩
theorem pat_at (I : L2.Inv X pins σ H s) (e : H a = some (patO a xs)) (hk : ∀ x ∈ xs, H x.2.1 = some (.tup (x.1.map V.bl))) (nd : (xs.map (·.1)).Nodup) : s.heap.DictOfH (bK X.prog X.w) a xs := by
  obtain ⟨o, es, ep, h1, h2, h3, h4⟩ := (I.hok a _ e).1
  exact ⟨o, es, ep, h1, h2, h3, h4, fun x hx => bkey I (hk x hx), nd⟩
theorem pat_new {P : Program} {w : World} {h : Heap} (R : h.DictOfH (bK P w) a xs) : ObjOk P w H h a (patO a xs) := by
  obtain ⟨o, es, ep, h1, h2, h3, h4, _, _⟩ := R
  exact ⟨⟨o, es, ep, h1, h2, h3, h4⟩, ⟨o, h1⟩, fun p q ⟨o', es', ep', g1, g2, g3, g4⟩ kp => ⟨o', es', ep', kp _ g1, g2, g3, g4⟩⟩
end
/-! the dict on data -/
def getP (kvs : List (List Bool × D)) (k : List Bool) : Option D := (kvs.find? fun p => decide (p.1 = k)).map (·.2)
def putP (kvs : List (List Bool × D)) (k : List Bool) (d : D) : List (List Bool × D) := if (getP kvs k).isSome then kvs.map fun p => if p.1 = k then (p.1, d) else p else kvs ++ [(k, d)]
section
variable {K : PySem.W.Frag} {M : List Addr} {H : Hp} {xs : List (List Bool × Addr × Value)} {kvs : List (List Bool × D)} {k : List Bool}
theorem prel_keys (r : PatRel K M H xs kvs) : xs.map (·.1) = kvs.map (·.1) := by
  unfold PatRel at r
  induction r with
  | nil => rfl
  | cons h _ ih => rw [List.map_cons, List.map_cons, ih, h.1]
theorem prel_mem (r : PatRel K M H xs kvs) : ∀ x ∈ xs, H x.2.1 = some (.tup (x.1.map V.bl)) := by
  unfold PatRel at r
  induction r with
  | nil => intro x hx; cases hx
  | cons h _ ih =>
    intro x hx
    rcases List.mem_cons.mp hx with e | hx
    · subst e; exact (mask_some h.2.1).2
    · exact ih x hx
theorem prel_get (r : PatRel K M H xs kvs) : match getP kvs k with
    | none => atKey xs k = none
    | some d => ∃ p v, atKey xs k = some p ∧ RelV v p.2 ∧ Da K (mask M H) v d := by
  unfold PatRel at r
  induction r with
  | nil => rfl
  | @cons x q xs kvs h _ ih =>
    by_cases c : q.1 = k
    · have c' : x.1 = k := h.1.trans c
      obtain ⟨v, r1, r2⟩ := h.2.2
      have e1 : getP (q :: kvs) k = some q.2 := by simp [getP, c]
      rw [e1]
      exact ⟨x.2, v, by simp [atKey, c'], r1, r2⟩
    · have c' : ¬ x.1 = k := fun z => c (h.1.symm.trans z)
      have e1 : getP (q :: kvs) k = getP kvs k := by simp [getP, c]
      have e2 : atKey (x :: xs) k = atKey xs k := by simp [atKey, c']
      rw [e1, e2]
      exact ih
theorem prel_some (r : PatRel K M H xs kvs) : (atKey xs k).isSome = (getP kvs k).isSome := by
  have := prel_get (k := k) r
  cases e : getP kvs k with
  | none => rw [e] at this; rw [this]; rfl
  | some d => rw [e] at this; obtain ⟨p, v, h, _⟩ := this; rw [h]; rfl
theorem prel_put (r : PatRel K M H xs kvs) {b : Addr} {v : V} {u : Value} {d : D} (hb : mask M H b = some (.tup (k.map V.bl))) (rv : RelV v u) (dv : Da K (mask M H) v d) : PatRel K M H (storedH xs k b u) (putP kvs k d) := by
  unfold storedH putP
  rw [prel_some r]
  by_cases c : (getP kvs k).isSome = true
  · rw [if_pos c, if_pos c]
    unfold PatRel at r ⊢
    induction r with
    | nil => exact .nil
    | @cons x q xs kvs h t ih =>
      have ih' : Paired (fun (x : List Bool × Addr × Value) (q : List Bool × D) => x.1 = q.1 ∧ mask M H x.2.1 = some (.tup (x.1.map V.bl)) ∧ ∃ v, RelV v x.2.2 ∧ Da K (mask M H) v q.2) (xs.map (putAt k u)) (kvs.map fun p => if p.1 = k then (p.1, d) else p) := by
        clear ih c
        induction t with
        | nil => exact .nil
        | @cons x q xs kvs h t ih =>
          rw [List.map_cons, List.map_cons]
          refine .cons ?_ ih
          unfold putAt
          by_cases c2 : q.1 = k
          · rw [if_pos (h.1.trans c2), if_pos c2]; exact ⟨h.1, h.2.1, v, rv, dv⟩
          · rw [if_neg (fun z => c2 (h.1.symm.trans z)), if_neg c2]; exact h
      rw [List.map_cons, List.map_cons]
      refine .cons ?_ ih'
      unfold putAt
      by_cases c2 : q.1 = k
      · rw [if_pos (h.1.trans c2), if_pos c2]; exact ⟨h.1, h.2.1, v, rv, dv⟩
      · rw [if_neg (fun z => c2 (h.1.symm.trans z)), if_neg c2]; exact h
  · rw [if_neg c, if_neg c]
    exact Paired.snoc r ⟨rfl, hb, v, rv, dv⟩
end
section
variable {S : Sc} {δ : List Slot} {C : Cn}
theorem nodup_put {kvs : List (List Bool × D)} {k : List Bool} {d : D} (h : (kvs.map (·.1)).Nodup) : ((putP kvs k d).map (·.1)).Nodup := by
  unfold putP
  split
  · next c =>
    have e : (kvs.map fun p => if p.1 = k then (p.1, d) else p).map (·.1) = kvs.map (·.1) := by
      rw [List.map_map]
      refine List.map_congr_left fun p _ => ?_
      show (if p.1 = k then (p.1, d) else p).1 = p.1
      split <;> rfl
    rw [e]; exact h
  · next c =>
    rw [List.map_append, List.nodup_append]
    refine ⟨h, by simp, fun x hx y hy => ?_⟩
    have hy' : y = k := by simpa using hy
    subst hy'
    intro e
    subst e
    apply c
    obtain ⟨p, hp, e⟩ := List.mem_map.mp hx
    unfold getP
    rw [Option.isSome_map, List.find?_isSome]
    exact ⟨p, hp, by simpa using e⟩
/-- x = {}, a dict for tuples of truth values -/
theorem sd_newP {x : Str} {pos' dp pos : Pos} {i : Nat} {s : Slot} {δ2 : List Slot} (lk : LookS S.N δ x i s (.pat []) δ2) (w : s.own = false) (q : C.nx δ2) (hx : Loc S.sc x) (ht : S.top = true ∨ S.sc.names.lookup x = some .local)
    (hs : ∀ env, swapsWith (.Dict [] [] dp) (some (.Name x pos')) pos.line env = pure false := by intro _; rfl) : SD S (.Assign [.Name x pos'] (.Dict [] [] dp) pos) δ C := by
  intro X ok B bo σ H ⟨M, ad, p⟩
  intro pins s1 I
  refine wpAny_Assign_Name (wpAny_Dict_empty ?_) (hs _)
  have I2 : L2.Inv X pins σ (upd H s1.heap.objs.size (patO s1.heap.objs.size [])) { s1 with heap := s1.heap.push { cls := .type "dict", data := .dict #[] } } :=
    I.laid (t' := s1.toks) (fun _ _ q => Heap.get?_push_of_some _ q) (Nat.le_refl _) (pat_new (P := X.prog) (w := X.w) (Heap.DictOfH.new s1.heap))
  have hn : H s1.heap.objs.size = none := I.hok.fresh (Nat.le_refl _)
  have big := I.big
  have pe : PtE S.g.K B δ2 (σ.set i (some (.ref s1.heap.objs.size))) (upd H s1.heap.objs.size (patO s1.heap.objs.size [])) := by
    rw [← lk.eq]
    exact p.own bo lk.slot w rfl hn fun em => ⟨rfl, List.mem_cons_self, beq_eq_false_iff_ne.mpr (Ne.symm (Nat.ne_of_lt big)), List.nodup_nil, [], upd_same, .nil⟩
  exact store_ok I2 (by rw [ok.N]; exact ok.nd) (by rw [ok.N]; exact lk.name) (loc_of ok hx) (show RelV (.ref _) (.ref _) from rfl) (fun s2 I2 => ⟨_, _, I2, δ2, q, pe⟩) (fn_or ok ht)
/-- x[b] -/
theorem ev_ixP {x : Str} {b : Expr} {np pos : Pos} {i : Nat} {kvs : List (List Bool × D)} {Q : D → List Slot → Prop} (l0 : Look S.N δ x i (.pat kvs)) (hv : Vis S.sc x) (h : EvD S b δ fun y δ1 => ∃ kvs k z, y = tB k ∧ Look S.N δ1 x i (.pat kvs) ∧ getP kvs k = some z ∧ Q z δ1) (hs : NoSl b)
    (hd : (x == ("__debug__" : Str)) = false := by decide) (hcd : (x == ("__classdict__" : Str)) = false := by decide) : EvD S (.Subscript (.Name x np) b pos) δ Q := by
  intro X ok M ad σ H sm pins s I
  obtain ⟨e1, hM, hns, nd, xs, e2, rel⟩ := sm.ok i _ l0.slot
  refine subD_of PySem.F.slot_dict_getitem.lookup hs (thn ((pe_var (X := X) (i := i) (by rw [ok.N]; exact l0.name) (vis_of ok hv) hd hcd).run pins s σ H (fun v H' => v = .ref (ad.getD i 0) ∧ H' = H) I ⟨_, slot_some e1, rfl, rfl⟩) fun u s1 ⟨v, H1, I1, r1, ev, eh⟩ => ?_)
  subst ev eh
  cases r1
  refine thn (h X ok M ad σ H1 sm pins s1 I1) fun iv s2 ⟨y, H2, I2, ry, d, δ1, ⟨kvs, k, z, ed, lk, hg, q⟩, st, dy⟩ => ?_
  subst ed
  obtain ⟨e3, hM3, hns3, nd3, xs3, e4, rel3⟩ := st.sm.ok i _ lk.slot
  cases dy with
  | tup hy ay =>
    have eq := dpAll_bls ay
    subst eq
    cases ry
    have D3 := pat_at I2 e4 (prel_mem rel3) (by rw [prel_keys rel3]; exact nd3)
    have pg := prel_get (k := k) rel3
    rw [hg] at pg
    obtain ⟨p, v, hp, rv, dv⟩ := pg
    refine ⟨D3.typeIs, wpAny_getItem_heap (tupleKind_room_in1 (hu1 ok)) (bkey I2 (mask_some hy).2) D3 hp ?_⟩
    exact ⟨v, H2, I2.tok _, rv, z, δ1, q, st, dv⟩
/-- x.get(e, f) -/
theorem ev_getP {x : Str} {e f : Expr} {np ap cp : Pos} {i : Nat} {kvs : List (List Bool × D)} {Q : D → List Slot → Prop} (l0 : Look S.N δ x i (.pat kvs)) (hv : Vis S.sc x)
    (h : EvD S e δ fun y δ1 => EvD S f δ1 fun z δ2 => ∃ kvs k, y = tB k ∧ Look S.N δ2 x i (.pat kvs) ∧ Q ((getP kvs k).getD z) δ2)
    (hd : (x == ("__debug__" : Str)) = false := by decide) (hcd : (x == ("__classdict__" : Str)) = false := by decide)
    (few : ∀ env, ((backTo cp (starEach [e, f] env)).all (fun x => !x.1) && (backToKw cp (keywordEach [] env)).all (fun x => x.1.isSome)
    && decide (([e, f] : List Expr).length + ([] : List Keyword).length + (if ([] : List Keyword).isEmpty then 0 else 1) < 30)) = true := by intro _; rfl)
    (line : (ap.endLine == cp.line) = true := by rfl) (trees : ∀ env, backTo cp (starEach [e, f] env) = [(false, eval e env), (false, eval f env)] := by intro _; rfl) : EvD S (.Call (.Attribute (.Name x np) "get" ap) [e, f] [] cp) δ Q := by
  intro X ok M ad σ H sm pins s I
  obtain ⟨e1, hM, hns, nd, xs, e2, rel⟩ := sm.ok i _ l0.slot
  refine wpAny_Call_method rfl (few _) line PySem.F.plainAttrs_dict PySem.F.slot_dict_get PySem.F.type_dict_get (thn ((pe_var (X := X) (i := i) (by rw [ok.N]; exact l0.name) (vis_of ok hv) hd hcd).run pins s σ H (fun v H' => v = .ref (ad.getD i 0) ∧ H' = H) I ⟨_, slot_some e1, rfl, rfl⟩) fun u s1 ⟨v, H1, I1, r1, ev, eh⟩ => ?_)
  subst ev eh
  cases r1
  have D1 := pat_at I1 e2 (prel_mem rel) (by rw [prel_keys rel]; exact nd)
  refine ⟨D1.typeIs, fun b q => ?_, ?_⟩
  · cases q
    obtain ⟨ob, _, _, h1, h2, _⟩ := D1
    exact ⟨ob, h1, h2.2.1⟩
  rw [trees]
  refine Calls.callWith_builtin rfl (Calls.evalArgs_plain (Calls.spliced_cons (thn (h X ok M ad σ H1 sm pins s1 I1) fun iv s2 ⟨y, H2, I2, ry, d, δ1, q1, st, dy⟩ =>
    Calls.spliced_cons (thn (q1 X ok M ad σ H2 st.sm pins s2 I2) fun fv s3 ⟨z, H3, I3, rz, dz', δ2, ⟨kvs, k, ed, lk, q⟩, st2, dz⟩ => Calls.spliced_nil ?_))))
  subst ed
  obtain ⟨e3, hM3, hns3, nd3, xs3, e4, rel3⟩ := st2.sm.ok i _ lk.slot
  have dy2 := dp_mono (st.sm.same st2.keep) _ dy
  cases dy2 with
  | tup hy ay =>
    have eq := dpAll_bls ay
    subst eq
    cases ry
    have D3 := pat_at I3 e4 (prel_mem rel3) (by rw [prel_keys rel3]; exact nd3)
    refine call_meetsIn PySem.F.slot_dict_get D3.typeIs PySem.F.entry_dict_get (PySem.F.args_dict_get_3 _ _ _) (meetsH_dict_get_default (bK X.prog X.w) _ _ hns3 fv) ⟨tupleKind_room_in1 (hu1 ok), k, xs3, bkey I3 (mask_some hy).2, D3, ?_⟩
    have pg := prel_get (k := k) rel3
    cases hg : getP kvs k with
    | none =>
      rw [hg] at pg
      rw [pg]
      rw [hg] at q
      exact ⟨z, H3, I3.tok _, rz, dz', δ2, q, st.trans st2, dz⟩
    | some d =>
      rw [hg] at pg
      obtain ⟨p, v, hp, rv, dv⟩ := pg
      rw [hp]
      rw [hg] at q
      exact ⟨v, H3, I3.tok _, rv, d, δ2, q, st.trans st2, dv⟩
/-- x[k] = e -/
theorem sd_putP {x : Str} {k e : Expr} {np sp pos : Pos} (h : EvD S e δ fun d δ1 => ∃ i kvs0, Look S.N δ1 x i (.pat kvs0) ∧ EvD S k δ1 fun y δ2 => ∃ kvs ks δ3, y = tB ks ∧ LookS S.N δ2 x i (.pat kvs) (.pat (putP kvs ks d)) δ3 ∧ kvs.length ≤ 1000 ∧ C.nx δ3) (hv : Vis S.sc x)
    (hd : (x == ("__debug__" : Str)) = false := by decide) (hcd : (x == ("__classdict__" : Str)) = false := by decide) (hs : ∀ env, swapsWith e (some (.Subscript (.Name x np) k sp)) pos.line env = pure false := by intro _; rfl) : SD S (.Assign [.Subscript (.Name x np) k sp] e pos) δ C := by
  intro X ok B bo σ H ⟨M, ad, p⟩ pins s I
  refine wpAny_Assign_Subscript (thn (h X ok M ad σ H p.sm pins s I) fun r s1 ⟨v, H1, I1, rv, d, δ1, ⟨i, kvs0, l0, q1⟩, st, dv⟩ => ?_) (hs _)
  obtain ⟨e1, hM, hns, nd, xs, e2, rel⟩ := st.sm.ok i _ l0.slot
  refine thn ((pe_var (X := X) (i := i) (by rw [ok.N]; exact l0.name) (vis_of ok hv) hd hcd).run pins s1 σ H1 (fun v H' => v = .ref (ad.getD i 0) ∧ H' = H1) I1 ⟨_, slot_some e1, rfl, rfl⟩) fun u s2 ⟨v2, H2, I2, r2, ev, eh⟩ => ?_
  subst ev eh
  cases r2
  refine thn (q1 X ok M ad σ H2 st.sm pins s2 I2) fun iv s3 ⟨y, H3, I3, ry, dy', δ2, ⟨kvs, ks, δ3, ed, lk, hl, q⟩, st2, dy⟩ => ?_
  subst ed
  obtain ⟨e3, hM3, hns3, nd3, xs3, e4, rel3⟩ := st2.sm.ok i _ lk.slot
  cases dy with
  | tup hy ay =>
    have eq := dpAll_bls ay
    subst eq
    cases ry
    have D3 := pat_at I3 e4 (prel_mem rel3) (by rw [prel_keys rel3]; exact nd3)
    have hxl : xs3.length = kvs.length := by have := congrArg List.length (prel_keys rel3); simpa using this
    refine wpAny_setItem_heap (hsz := by rw [hxl, sizeLine_eq]; omega) (tupleKind_room_in1 (hu1 ok)) (bkey I3 (mask_some hy).2) D3 fun h' new sb => ?_
    have he : ∃ u, h'.get? (ad.getD i 0) = some u := by
      obtain ⟨o, _, _, ho, _⟩ := new
      exact ⟨o, ho⟩
    have I4 := I3.write (e := ad.getD i 0) (t' := s3.toks + (bK X.prog X.w).draws ks) (by rw [e4]; trivial) (.inl rfl) (fun b u hb hu => (sb.2 b hb).trans hu) he (pat_new new)
    refine ⟨σ, _, I4, δ3, q, M, ad, ?_⟩
    rw [← lk.eq]
    refine (p.step (st.trans st2)).step (st2.sm.put lk.slot rfl rfl ⟨rfl, hM3, hns3, nodup_put nd3, _, upd_same, ?_⟩)
    unfold PatRel
    rw [mask_upd hM3]
    exact prel_put rel3 hy rv (dp_mono (st.sm.same st2.keep) _ dv)
end
end Fb
end
section
namespace Fb
open PySem PySem.Spec PyProof.Rows L2
/-! ### tuples of truth values in order -/
def ltB : List Bool → List Bool → Bool
  | _, [] => false
  | [], _ :: _ => true
  | x :: xs, y :: ys => if x = y then ltB xs ys else (!x && y)
def leB (a b : List Bool) : Bool := !ltB b a
theorem ltB_irrefl : ∀ a : List Bool, ltB a a = false
  | [] => rfl
  | x :: xs => by simp [ltB, ltB_irrefl xs]
theorem ltB_asymm : ∀ {a b : List Bool}, ltB a b = true → ltB b a = false
  | [], [], h => by simp [ltB] at h
  | [], y :: ys, _ => rfl
  | x :: xs, [], h => by simp [ltB] at h
  | x :: xs, y :: ys, h => by
    unfold ltB at h ⊢
    by_cases c : x = y
    · rw [if_pos c] at h
      rw [if_pos c.symm]
      exact ltB_asymm h
    · rw [if_neg c] at h
      rw [if_neg (Ne.symm c)]
      revert h
      cases x <;> cases y <;> simp
theorem ltB_conn : ∀ {a b : List Bool}, ltB a b = false → ltB b a = false → a = b
  | [], [], _, _ => rfl
  | [], y :: ys, h, _ => by simp [ltB] at h
  | x :: xs, [], _, h => by simp [ltB] at h
  | x :: xs, y :: ys, h, g => by
    unfold ltB at h g
    by_cases c : x = y
    · rw [if_pos c] at h
      rw [if_pos c.symm] at g
      rw [c, ltB_conn h g]
    · rw [if_neg c] at h
      rw [if_neg (Ne.symm c)] at g
      revert h g c
      cases x <;> cases y <;> simp
theorem ltB_trans : ∀ {a b c : List Bool}, ltB a b = true → ltB b c = true → ltB a c = true
  | [], [], _, h, _ => by simp [ltB] at h
  | x :: xs, [], _, h, _ => by simp [ltB] at h
  | _, y :: ys, [], _, h => by simp [ltB] at h
  | [], y :: ys, z :: zs, _, _ => rfl
  | x :: xs, y :: ys, z :: zs, h, g => by
    unfold ltB at h g ⊢
    by_cases c : x = y
    · subst c
      rw [if_pos rfl] at h
      by_cases d : x = z
      · subst d
        rw [if_pos rfl] at g ⊢
        exact ltB_trans h g
      · rw [if_neg d] at g ⊢
        exact g
    · rw [if_neg c] at h
      by_cases d : y = z
      · subst d
        rw [if_neg c]
        exact h
      · rw [if_neg d] at g
        revert h g c d
        cases x <;> cases y <;> cases z <;> simp
theorem leB_total (a b : List Bool) : (leB a b || leB b a) = true := by
  unfold leB
  cases h : ltB b a with
  | false => rfl
  | true => rw [ltB_asymm h]; rfl
theorem leB_anti {a b : List Bool} (h : leB a b = true) (g : leB b a = true) : a = b := ltB_conn (by simpa [leB] using g) (by simpa [leB] using h)
theorem leB_trans (a b c : List Bool) (h : leB a b = true) (g : leB b c = true) : leB a c = true := by
  cases e : leB a c with
  | true => rfl
  | false =>
    have h1 : ltB c a = true := by simpa [leB] using e
    by_cases d : ltB a b = true
    · have := ltB_trans h1 d
      simp [leB, this] at g
    · have h2 : ltB a b = false := by simpa using d
      have h3 : ltB b a = false := by simpa [leB] using h
      have := ltB_conn h2 h3
      subst this
      simp [leB, h1] at g
def srtB (ks : List (List Bool)) : List (List Bool) := ks.mergeSort leB
theorem srtB_perm {ks : List (List Bool)} : (srtB ks).Perm ks := List.mergeSort_perm _ _
theorem srtB_pw {ks : List (List Bool)} : (srtB ks).Pairwise fun a b => leB a b = true := List.pairwise_mergeSort leB_trans leB_total ks
theorem srtB_eq {ks ls : List (List Bool)} (p : ks.Perm ls) : srtB ks = srtB ls :=
  List.Perm.eq_of_pairwise (le := fun a b => leB a b = true) (fun _ _ _ _ h g => leB_anti h g) srtB_pw srtB_pw (srtB_perm.trans (p.trans srtB_perm.symm))
theorem srtB_mem {ks : List (List Bool)} {k : List Bool} : k ∈ srtB ks ↔ k ∈ ks := srtB_perm.mem_iff
theorem srtB_len {ks : List (List Bool)} : (srtB ks).length = ks.length := srtB_perm.length_eq
theorem srtB_nodup {ks : List (List Bool)} (h : ks.Nodup) : (srtB ks).Nodup := srtB_perm.nodup_iff.mpr h
/-! the kit's order on the data -/
theorem row_bools : ∀ xs ys : List Bool, PySem.W.rowLt (xs.map .bool) (ys.map .bool) = ltB xs ys
  | [], [] => PyProof.Rows.lex_irrefl _
  | [], y :: ys => by
    show PySem.W.rowLt [] (PyData.bool y :: ys.map .bool) = true
    unfold PySem.W.rowLt
    rw [PySem.W.toks_all_cons]
    simp only [PySem.W.keyToksAll]
    rw [PyProof.Rows.lex_diff (O := itemOrd) (by simp)]
    rfl
  | x :: xs, [] => by
    show PySem.W.rowLt (PyData.bool x :: xs.map .bool) [] = false
    unfold PySem.W.rowLt
    rw [PySem.W.toks_all_cons]
    simp only [PySem.W.keyToksAll]
    rw [PyProof.Rows.lex_diff (O := itemOrd) (by simp)]
    rfl
  | x :: xs, y :: ys => by
    show PySem.W.rowLt (PyData.bool x :: xs.map .bool) (PyData.bool y :: ys.map .bool) = _
    unfold PySem.W.rowLt
    rw [PySem.W.dataLt_cons (by simp [PySem.W.alike]), PySem.W.dataLt_bool]
    have ih := row_bools xs ys
    unfold PySem.W.rowLt at ih
    rw [ih]
    rw [show ltB (x :: xs) (y :: ys) = if x = y then ltB xs ys else (!x && y) by rw [ltB]]
    cases x <;> cases y <;> simp [PyData.eqv, b2i]
theorem le_bools : PySem.W.dataLe false (fun k => tB k) = leB := by
  funext a b
  show (!PySem.W.dataLt (.tuple (b.map .bool)) (.tuple (a.map .bool))) = _
  rw [PySem.W.dataLt_tuple]
  exact congrArg (! ·) (row_bools b a)
/-! ### sorted, of tuples of truth values -/
theorem readsB {h : Heap} : ∀ {k : List Bool} {us : List Value}, Vals (k.map V.bl) us → ReadsAll h us (k.map .bool) []
  | [], _, r => by cases r; exact .nil
  | b :: k, _, r => by
    cases r with
    | cons r1 r2 =>
      cases r1
      exact ReadsAll.cons (as := []) (bs := []) (Reads.bool b) (readsB r2)
def TbV (H : Hp) (v : Value) (k : List Bool) : Prop := ∃ b, v = Value.ref b ∧ H b = some (.tup (k.map V.bl))
section
variable {X : Cx} {pins : List (Addr × Obj)} {σ : L2.St} {H : Hp} {s : Shared}
theorem tb_reads (I : L2.Inv X pins σ H s) {v : Value} {k : List Bool} (h : TbV H v k) : Reads s.heap v (tB k) [] := by
  obtain ⟨b, e, hb⟩ := h
  subst e
  obtain ⟨_, its, r, o, h1, h2, n, h3⟩ := (show ObjOk X.prog X.w H s.heap b (.tup (k.map V.bl)) from I.hok b _ hb)
  exact .tuple h1 h2 h3 (by simpa using readsB r)
theorem tb_da {K : PySem.W.Frag} {M : List Addr} : ∀ {out : List Value} {ks : List (List Bool)}, PySem.W.EachIs (TbV (mask M H)) out ks → ∃ vs, Vals vs out ∧ DaAll K (mask M H) vs (ks.map fun k => tB k)
  | _, _, .nil => ⟨[], .nil, .nil⟩
  | _, _, .cons ⟨b, e, hb⟩ t => by
    obtain ⟨vs, r, d⟩ := tb_da t
    subst e
    exact ⟨.ref b :: vs, .cons rfl r, .cons (.tup hb (bls_dpAll _)) d⟩
theorem all_alike (ks : List (List Bool)) : PySem.W.AllAlike (ks.map fun k => tB k) := by
  refine PySem.W.AllAlike.of fun a b => ?_
  have key : ∀ xs ys : List Bool, PySem.W.alikeAll (xs.map .bool) (ys.map .bool) = true := by
    intro xs
    induction xs with
    | nil => intro ys; simp [PySem.W.alikeAll]
    | cons x xs ih =>
      intro ys
      cases ys with
      | nil => simp [PySem.W.alikeAll]
      | cons y ys => simp [PySem.W.alikeAll, PySem.W.alike, ih ys]
  show PySem.W.alike (.tuple (a.map .bool)) (.tuple (b.map .bool)) = true
  rw [PySem.W.alike]
  exact key a b
theorem sortable {ks : List (List Bool)} (h : ∀ k ∈ ks, k ≠ []) : PySem.W.Sortable (ks.map fun k => tB k) := .inl fun d hd => by
  obtain ⟨k, hk, e⟩ := List.mem_map.mp hd
  cases k with
  | nil => exact absurd rfl (h _ hk)
  | cons b r => exact ⟨.bool b, r.map .bool, e.symm⟩
/-- the list of what was collected, sorted in place, is the answer -/
theorem sort_here (I : L2.Inv X pins σ H s) {K : PySem.W.Frag} {M : List Addr} (tr : ∀ a ∈ M, ∃ o, H a = some o) {vs : List Value} {ks : List (List Bool)} (e : PySem.W.EachIs (TbV (mask M H)) vs ks) (hne : ∀ k ∈ ks, k ≠ []) (hl : ks.length ≤ 1000) {A : Around} (hu : A.units + 64 < cLine)
    {E : Value → Shared → Prop} {Q : VK} {R : Value → Shared → Prop} (q : ∀ v H', Same H H' → Da K (mask M H') v (.list ((srtB ks).map fun k => tB k)) → Q v H')
    (fin : ∀ s', EP X pins σ Q (.ref s.heap.objs.size) s' → R .none s') :
    wpAny (model X.prog X.w) A (call (.builtin "list.sort") [.ref s.heap.objs.size]) R E { s with heap := s.heap.push (seqObj "list" vs.toArray 0) } := by
  have hoL : (s.heap.push (seqObj "list" vs.toArray 0)).get? s.heap.objs.size = some (seqObj "list" vs.toArray 0) := Heap.get?_push_size _ rfl
  have keepR : ∀ {v : Value} {k : List Bool}, TbV (mask M H) v k → Reads (s.heap.push (seqObj "list" vs.toArray 0)) v (tB k) [] := fun {v k} h => by
    have h' : TbV H v k := let ⟨b, e, hb⟩ := h; ⟨b, e, (mask_some hb).2⟩
    exact PyProof.Rows.Reads.keeps (fun _ _ z => Heap.get?_push_of_some _ z) (tb_reads I h')
  refine PySem.W.list_sort_data (s := { s with heap := s.heap.push (seqObj "list" vs.toArray 0) }) (enc := fun k => tB k) (bs := ks) (R := TbV (mask M H)) hoL e (e.mono fun v k h => ⟨[], keepR h, by simp⟩) (all_alike ks) (sortable hne) (by rw [sizeLine_eq]; omega) (fun k _ => by have := (shd_tB (ns := k)).dep; omega) fun out hlen hout => fin _ ?_
  rw [le_bools] at hout
  obtain ⟨us, r, d⟩ := tb_da (K := K) hout
  obtain ⟨e', he'⟩ := PyProof.Rows.sortedHeap_at (vs := vs) (out := out.toArray) hoL
  have hlen2 : us.length ≤ sizeLine := by rw [r.length, hlen, sizeLine_eq]; omega
  have hn : H s.heap.objs.size = none := I.hok.fresh (Nat.le_refl _)
  obtain ⟨se, dd⟩ := new_lst tr hn d
  refine ⟨.ref s.heap.objs.size, upd H s.heap.objs.size (.lst us), I.laid (t' := s.toks) (fun b u z => ?_) (Nat.le_refl _)
    (show ObjOk X.prog X.w _ _ _ (.lst us) from ⟨hlen2, out, e', r, he'⟩), rfl, q _ _ se dd⟩
  have hb : b < s.heap.objs.size := Heap.lt_size z
  rw [PyProof.Rows.sortedHeap_old (Nat.ne_of_lt hb) (by rw [size_push']; exact Nat.lt_succ_of_lt hb)]
  exact Heap.get?_push_of_some _ z
end
theorem prel_each {K : PySem.W.Frag} {M : List Addr} {H : Hp} {xs : List (List Bool × Addr × Value)} {kvs : List (List Bool × D)} (r : PatRel K M H xs kvs) : PySem.W.EachIs (TbV (mask M H)) (xs.map fun x => Value.ref x.2.1) (kvs.map (·.1)) := by
  unfold PatRel at r
  induction r with
  | nil => exact .nil
  | cons h _ ih => exact .cons ⟨_, rfl, by have := h.2.1; rw [h.1] at this; exact this⟩ ih
section
variable {S : Sc} {δ : List Slot}
/-- sorted(x), x a dict for tuples of truth values -/
theorem ev_sortedP {x : Str} {np p pos : Pos} {i : Nat} {kvs : List (List Bool × D)} {Q : D → List Slot → Prop} (l0 : Look S.N δ x i (.pat kvs)) (hv : Vis S.sc x) (hg : S.sc.names.lookup ("sorted" : Str) = some .globalImplicit) (hm : S.g.mg "sorted" = none)
    (hne : ∀ k ∈ kvs.map (·.1), k ≠ []) (hl : kvs.length ≤ 1000) (q : Q (.list ((srtB (kvs.map (·.1))).map fun k => tB k)) δ)
    (hd : (x == ("__debug__" : Str)) = false := by decide) (hcd : (x == ("__classdict__" : Str)) = false := by decide) : EvD S (.Call (.Name "sorted" p) [.Name x np] [] pos) δ Q := by
  intro X ok M ad σ H sm
  obtain ⟨e1, hM, hns, nd, xs, e2, rel⟩ := sm.ok i _ l0.slot
  have cr : CallR X (.builtin "sorted") (fun vs H' Q' => vs = [.ref (ad.getD i 0)] ∧ H' = H ∧ ∀ v H2, Same H H2 → Da S.g.K (mask M H2) v (.list ((srtB (kvs.map (·.1))).map fun k => tB k)) → Q' v H2) := by
    intro pins s σ' H' vs us Q' I r ⟨e3, e4, q'⟩
    subst e3 e4
    rw [Vals.ref1 r]
    have D1 := pat_at I e2 (prel_mem rel) (by rw [prel_keys rel]; exact nd)
    obtain ⟨o, es, ep, ho, hex, hdt, hes, his, hnd⟩ := D1
    have hsz : es.size = xs.length := size_of_entries hes
    have hxl : xs.length = kvs.length := by have := congrArg List.length (prel_keys rel); simpa using this
    refine Calls.call_function_entry PyProof.Rows.kind_sorted PyProof.Rows.plain_sorted PyProof.Rows.entry_sorted (PyProof.Rows.args_sorted1 _) ?_
    unfold Builtin.«sorted»
    refine wpAny_bind (m := checkCount "sorted" 1 1 _) (wpAny_pure ?_)
    refine wpAny_bind (PySem.W.kdu_collect (A := X.A.in1) (L2.kdl_raw hns hex hdt) (I.ok.hd ok.calm) ho (by rw [hsz, hxl, sizeLine_eq]; omega) fun h' tk acc hk hacc => ?_)
    have I1 : L2.Inv X pins σ' H' { s with heap := h', toks := tk } := I.kept hk
    have ea : PySem.W.EachIs (TbV (mask M H')) acc.toList (kvs.map (·.1)) := by
      have hal : acc.toList.length = xs.length := by rw [Array.length_toList, hacc.1]; exact hsz
      have hv : acc.toList = xs.map fun x => Value.ref x.2.1 := by
        refine List.ext_getElem? fun j => ?_
        rw [List.getElem?_map]
        cases hj : acc.toList[j]? with
        | none =>
          rw [List.getElem?_eq_none (by have := List.getElem?_eq_none_iff.mp hj; omega)]; rfl
        | some v =>
          obtain ⟨en, hen, ev⟩ := hacc.2 j v (by rw [← Array.getElem?_toList]; exact hj)
          have q0 := entry_at hes j
          rw [hen] at q0
          cases hb : xs[j]? with
          | none => rw [hb] at q0; cases q0
          | some y =>
            rw [hb] at q0
            have e5 := Option.some.inj q0
            rw [ev, e5]; rfl
      rw [hv]
      exact prel_each rel
    have hl2 : (kvs.map (·.1)).length ≤ 1000 := by rw [List.length_map]; exact hl
    have hal : acc.toList.length ≤ sizeLine := by rw [ea.length, sizeLine_eq]; omega
    refine wpAny_bind (wpAny_newList ?_ hal)
    have hu := hu65 ok
    refine wpAny_bind (wpAny_holding ?_)
    refine sort_here (Q := Q') I1 sm.tr ea hne hl2 (A := X.A.in1) (by show X.A.units + 1 + 64 < cLine; omega) q' fun s' z => ?_
    exact wpAny_pure ⟨_, rfl, z⟩
  refine te_of (pe_callB cr (gl_of ok hg) (mg_of' ok hm) (by decide +kernel) (pa_cons (pe_var (i := i) (by rw [ok.N]; exact l0.name) (vis_of ok hv) hd hcd) pa_nil rfl)) ⟨_, slot_some e1, rfl, rfl, fun v H2 se dv => ⟨_, δ, q, .grow sm se, dv⟩⟩
end
end Fb
end
section
namespace Fb
open PySem PySem.Spec PyProof.Rows L2
/-! ### sets of tuples of truth values -/
section
variable {P : Program} {w : World} {A : Around} {E : Value → Shared → Prop} {s : Shared}
abbrev IsB (P : Program) (w : World) (h : Heap) (k : List Bool) (a : Addr) : Prop := IsTupleKey (PpSet.boolK P w) h k a
abbrev bh (P : Program) (w : World) (k : List Bool) : Int := tupleKeyHash (PpSet.boolK P w) k
theorem items_bool {k : List Bool} {vs : List Value} (h : ItemsAre (PpSet.boolK P w) k vs) : ∀ v ∈ vs, ∃ b, v = Value.bool b := by
  induction h with
  | nil => exact fun _ z => nomatch z
  | cons h1 _ ih =>
    intro v z
    rcases List.mem_cons.mp z with z | z
    · exact ⟨_, z.trans (PpSet.isB_shape h1)⟩
    · exact ih v z
theorem stmt_bool (n : Nat) (b : Bool) : ofAClassStatement n (.bool b) = pure false := by cases n <;> rfl
theorem byv_bool (n : Nat) (b : Bool) : hashByValue n (.bool b) = pure true := by cases n <;> rfl
theorem stmt_tB {k : List Bool} {b : Addr} {Q : Bool → Shared → Prop} (hk : IsB P w s.heap k b) (q : Q false s) : wpAny (model P w) A (ofAClassStatement 8 (.ref b)) Q E s := by
  have ty := hk.typeIs
  obtain ⟨o, its, n, ho, _, hd, hi⟩ := hk
  unfold ofAClassStatement
  refine wpAny_bind (wpAny_typeOf ty ?_)
  dsimp only
  simp only [show (("tuple" : String) == "tuple") = true by decide, if_true, Bool.not_true, Bool.false_eq_true, if_false]
  try refine wpAny_bind (wpAny_pure ?_)
  try simp only [Bool.not_true, Bool.false_eq_true, if_false]
  show wpAny _ _ (seqItems? (.ref b) >>= _) _ _ s
  refine wpAny_bind (wpAny_seqItems ho hd ?_)
  dsimp only
  refine wpAny_bind ?_
  show wpAny _ _ (forIn its _ _) _ _ s
  rw [← Array.forIn_toList]
  refine wpAny_forIn_list _ (fun todo r s' => (∀ v ∈ todo, ∃ c, v = Value.bool c) ∧ s' = s ∧ r.1 = none) _ (fun v todo r s' ⟨all, es, er⟩ => ?_) (fun r s' ⟨_, es, er⟩ => ?_) _ _ ⟨items_bool hi, rfl, rfl⟩
  · obtain ⟨c, ec⟩ := all v List.mem_cons_self
    subst es ec
    rw [stmt_bool]
    refine wpAny_bind (wpAny_pure ?_)
    simp only [Bool.false_eq_true, if_false]
    exact wpAny_pure ⟨fun u z => all u (List.mem_cons_of_mem _ z), rfl, rfl⟩
  · obtain ⟨r1, r2⟩ := r
    simp only at er
    subst er es
    exact wpAny_pure q
theorem byv_tB {k : List Bool} {b : Addr} {Q : Bool → Shared → Prop} (hk : IsB P w s.heap k b) (q : Q true s) : wpAny (model P w) A (hashByValue 8 (.ref b)) Q E s := by
  have ty := hk.typeIs
  obtain ⟨o, its, n, ho, _, hd, hi⟩ := hk
  unfold hashByValue
  refine wpAny_bind (wpAny_specialOf ty PySem.F.slot_tuple_hash.lookup ?_)
  show wpAny _ _ (seqItems? (.ref b) >>= _) _ _ s
  refine wpAny_bind (wpAny_seqItems ho hd (wpAny_bind ?_))
  show wpAny _ _ (forIn its _ _) _ _ s
  rw [← Array.forIn_toList]
  refine wpAny_forIn_list _ (fun todo r s' => (∀ v ∈ todo, ∃ c, v = Value.bool c) ∧ s' = s ∧ r.1 = none) _ (fun v todo r s' ⟨all, es, er⟩ => ?_) (fun r s' ⟨_, es, er⟩ => ?_) _ _ ⟨items_bool hi, rfl, rfl⟩
  · obtain ⟨c, ec⟩ := all v List.mem_cons_self
    subst es ec
    rw [byv_bool]
    refine wpAny_bind (wpAny_pure ?_)
    simp only [Bool.not_true, Bool.false_eq_true, if_false]
    exact wpAny_pure ⟨fun u z => all u (List.mem_cons_of_mem _ z), rfl, rfl⟩
  · obtain ⟨r1, r2⟩ := r
    simp only at er
    subst er es
    exact wpAny_pure q
theorem shows_no {k : List Bool} {b : Addr} {Q : Bool → Shared → Prop} (hk : IsB P w s.heap k b) {ys : List Value} (hy : ∀ y ∈ ys, ∃ k' c, y = Value.ref c ∧ IsB P w s.heap k' c) (q : Q false s) : wpAny (model P w) A (searchCouldBeSeen (.ref b) ys) Q E s := by
  unfold searchCouldBeSeen
  refine wpAny_bind (wpAny_forIn_list _ (fun todo r s' => (∀ y ∈ todo, ∃ k' c, y = Value.ref c ∧ IsB P w s.heap k' c) ∧ s' = s ∧ r.1 = none) _ (fun v todo r s' ⟨all, es, er⟩ => ?_) (fun r s' ⟨_, es, er⟩ => ?_) _ _ ⟨hy, rfl, rfl⟩)
  · obtain ⟨k', c, ec, hc⟩ := all v List.mem_cons_self
    subst es ec
    have go : ∀ y ∈ todo, ∃ k' c, y = Value.ref c ∧ IsB P w s'.heap k' c := fun u z => all u (List.mem_cons_of_mem _ z)
    dsimp only
    by_cases hv : (b == c || (carriedByValue (.ref b) && carriedByValue (.ref c))) = true
    · exact wp_if_pos hv (wpAny_pure ⟨go, rfl, rfl⟩)
    · refine wp_if_neg hv (wpAny_bind (wpAny_eqIsQuiet_tuple hk ?_))
      simp only [Bool.not_true, Bool.false_eq_true, if_false]
      refine wpAny_bind (wpAny_eqIsQuiet_tuple hc ?_)
      simp only [Bool.not_true, Bool.false_eq_true, if_false]
      refine wpAny_bind (stmt_tB hk ?_)
      simp only [Bool.false_eq_true, if_false]
      refine wpAny_bind (stmt_tB hc ?_)
      simp only [Bool.false_eq_true, if_false]
      exact wpAny_pure ⟨go, rfl, rfl⟩
  · obtain ⟨r1, r2⟩ := r
    simp only at er
    subst er es
    exact wpAny_pure q
/-- a set of such tuples: its members by their places, its table found again -/
def rowB (P : Program) (w : World) (p : Addr × List Bool) : Int × Value := (bh P w p.2, .ref p.1)
structure BSet (P : Program) (w : World) (h : Heap) (a : Addr) (l : List (Addr × List Bool)) (es : Array (Int × Value)) (ep : Nat) (t : SetTable) : Prop where
  obj : ∃ o, h.get? a = some o ∧ o.ExactSet ∧ o.data = .set es ep t
  rows : es.toList = l.map (rowB P w)
  tab : TabOk t (l.map fun p => bh P w p.2)
  uniq : (l.map (·.2)).Nodup
  tups : ∀ p ∈ l, IsB P w h p.2 p.1
  pln : t.plain = true
  ord : w.params.followText "set-order" = true ∨ t.led = true
  few : (t.mask = 7 ∧ l.length ≤ 4) ∨ (t.mask = 31 ∧ l.length ≤ 17)
variable {a : Addr} {l : List (Addr × List Bool)} {es : Array (Int × Value)} {ep : Nat} {t : SetTable}
theorem rows_size (h : es.toList = l.map (rowB P w)) : es.size = l.length := by
  have := congrArg List.length h
  rwa [Array.length_toList, List.length_map] at this
theorem BSet.small {h : Heap} (R : BSet P w h a l es ep t) : l.length ≤ t.mask := by rcases R.few with ⟨e, f⟩ | ⟨e, f⟩ <;> omega
theorem BSet.fits {h : Heap} (R : BSet P w h a l es ep t) : t.fits es.size = true := by
  have h1 := R.tab.sz
  have h2 := rows_size R.rows
  have h3 := R.small
  rw [List.length_map] at h1
  unfold SetTable.fits SetTable.fill
  rw [R.tab.dm, Bool.and_eq_true, beq_iff_eq, decide_eq_true_eq]
  show t.place.size = es.size ∧ t.place.size + 0 ≤ t.mask
  omega
theorem BSet.entry {h : Heap} (R : BSet P w h a l es ep t) {i : Nat} {p : Addr × List Bool} (e : l[i]? = some p) : es[i]? = some (bh P w p.2, Value.ref p.1) := by
  rw [← Array.getElem?_toList, R.rows, List.getElem?_map, e]; rfl
theorem BSet.place {h : Heap} (R : BSet P w h a l es ep t) {i : Nat} (hi : i < l.length) : i < t.place.toList.length := by
  have h1 := R.tab.sz
  rw [List.length_map] at h1
  rw [Array.length_toList, h1]; exact hi
theorem no_dummy (m : Nat) : ∀ (n : Nat) (p : SetTable.Probe), p.dummy = none → (nth m p n).dummy = none
  | 0, _, h => h
  | n + 1, p, h => no_dummy m n (adv m p) (by unfold adv; split <;> exact h)
/-- the search, as adding asks for it: from the c-th step on -/
theorem findB (R : BSet P w s.heap a l es ep t) {x : Addr} {k : List Bool} (hx : IsB P w s.heap k x) (hu : A.units < cLine) {Kn : Nat} (hf : Kn < 10 * SetTable.turns t.mask)
    (hK : way t.mask (bh P w k) Kn ∉ t.place.toList) (hb : ∀ c, c < Kn → way t.mask (bh P w k) c ∈ t.place.toList) {Q : SetFound → Shared → Prop}
    (yes : k ∈ l.map (·.2) → Q (.there none) s) (no : k ∉ l.map (·.2) → Q (.free (way t.mask (bh P w k) Kn) false) s) :
    ∀ (f c : Nat) (st : Option SetTable.Probe), st.getD (t.probeStart (bh P w k)) = nth t.mask (t.probeStart (bh P w k)) c → c ≤ Kn → Kn - c < f →
      (∀ (i : Nat) p, l[i]? = some p → p.2 = k → ∃ c', c ≤ c' ∧ c' < Kn ∧ t.place.toList[i]? = some (way t.mask (bh P w k) c')) →
      wpAny (model P w) A (setSearchFrom a (.ref x) (bh P w k) true f st) Q E s := by
  intro f
  induction f with
  | zero => intro c st _ _ h; exact absurd h (Nat.not_lt_zero _)
  | succ f ih =>
    intro c st hst hc hfu ahead
    obtain ⟨o, ho, hex, hd⟩ := R.obj
    have p0 : t.probeStart (bh P w k) = runAt t.mask (SetTable.bits (bh P w k) % (t.mask + 1)) (SetTable.bits (bh P w k)) := rfl
    have jump : ∀ q, nth t.mask (nth t.mask (t.probeStart (bh P w k)) c) q = nth t.mask (t.probeStart (bh P w k)) (c + q) := fun q => (nth_add t.mask c _ q).symm
    have jj : ∀ q, (nth t.mask (nth t.mask (t.probeStart (bh P w k)) c) q).j = way t.mask (bh P w k) (c + q) := fun q => by rw [jump]; rfl
    have hash_at : ∀ (i : Nat) p, l[i]? = some p → (fun i => (es[i]?.map (·.1)).getD 0) i = bh P w p.2 := fun i p hp => by
      show (es[i]?.map (·.1)).getD 0 = _
      rw [R.entry hp]; rfl
    have spec := go_spec t R.tab.ris R.tab.dm (fun i => (es[i]?.map (·.1)).getD 0) (bh P w k) (10 * SetTable.turns t.mask) (Kn - c) (nth t.mask (t.probeStart (bh P w k)) c) (no_dummy _ _ _ rfl) (by omega)
      (fun q hq => by rw [jj]; exact hb _ (by omega)) (by rw [jj, show c + (Kn - c) = Kn by omega]; exact hK)
    rw [setSearchFrom_succ]
    refine wpAny_bind (wpAny_setState_of ho hd R.fits ?_)
    dsimp only
    refine wp_if_neg (by unfold SetTable.gaveWay; rw [mask_odd R.tab.mok]; decide) ?_
    try refine wpAny_bind (wpAny_pure ?_)
    rcases spec with ⟨q, i, hq, hi, hh, hno, hpr⟩ | ⟨hno, hpr⟩
    · rw [jj] at hi
      have met : t.probe (fun i => (es[i]?.map (·.1)).getD 0) (bh P w k) (st.getD (t.probeStart (bh P w k))) = some (.candidate (way t.mask (bh P w k) (c + q)) i (nth t.mask (t.probeStart (bh P w k)) (c + (q + 1)))) := by
        rw [hst, ← jj, ← jump]; exact hpr
      rw [met]
      dsimp only
      have hil : i < l.length := by
        have h1 := (List.getElem?_eq_some_iff.mp hi).1
        have h2 := R.tab.sz
        rw [List.length_map] at h2
        rw [Array.length_toList] at h1
        omega
      obtain ⟨p, hp⟩ : ∃ p, l[i]? = some p := ⟨_, List.getElem?_eq_getElem hil⟩
      have hpm := List.mem_of_getElem? hp
      have rest : wpAny (model P w) A (searchRest a (.ref x) (bh P w k) true f es t (way t.mask (bh P w k) (c + q)) i (nth t.mask (t.probeStart (bh P w k)) (c + (q + 1)))) Q E s := by
        unfold searchRest
        rw [R.entry hp]
        dsimp only
        refine wpAny_bind (wpAny_holding (wpAny_eqBool_tuple hu (R.tups p hpm) hx (wpAny_bind (wpAny_setState_of ho hd R.fits ?_))))
        dsimp only
        by_cases hkk : p.2 = k
        · exact wp_if_pos (by simp [hkk]) (wpAny_pure (yes (List.mem_map.mpr ⟨p, hpm, hkk⟩)))
        · refine wp_if_neg (by simp [hkk]) ?_
          try refine wpAny_bind (wpAny_pure ?_)
          rw [sameMem]
          dsimp only
          have live : t.slot (way t.mask (bh P w k) (c + q)) = .live i := slot_live R.tab.ris hi
          simp only [if_true, live, R.entry hp]
          refine wpAny_bind (wpAny_isSame_ref_self (wpAny_bind (wpAny_pure ?_)))
          simp only [if_true]
          refine wp_if_neg (by simp [hkk]) ?_
          refine ih (c + (q + 1)) _ rfl (by omega) (by omega) fun i0 p1 h0 hk0 => ?_
          obtain ⟨c', a1, a2, a3⟩ := ahead i0 p1 h0 hk0
          refine ⟨c', ?_, a2, a3⟩
          apply Classical.byContradiction
          intro far
          rcases Nat.lt_or_ge c' (c + q) with z | z
          · exact hno (c' - c) i0 (by omega) (by rw [jj, show c + (c' - c) = c' by omega]; exact a3) ((hash_at i0 p1 h0).trans (congrArg (bh P w) hk0))
          · have ec : c' = c + q := by omega
            rw [ec] at a3
            have s0 := slot_live R.tab.ris a3
            rw [live] at s0
            injection s0 with s0
            rw [← s0, hp] at h0
            exact hkk ((congrArg Prod.snd (Option.some.inj h0)).trans hk0)
      by_cases hl : t.led = true
      · refine wp_if_neg (by simp [hl]) ?_
        try refine wpAny_bind (wpAny_pure ?_)
        exact rest
      · refine wp_if_pos (by simp [hl]) (wpAny_bind (shows_no hx (fun y hy => ?_) ?_))
        · obtain ⟨e, he, ee⟩ := List.mem_map.mp hy
          have he1 : e ∈ es ∧ e.1 = bh P w k := by simpa using he
          have he2 : e ∈ es.toList := by simpa using he1.1
          rw [R.rows] at he2
          obtain ⟨p2, hp2, e2⟩ := List.mem_map.mp he2
          exact ⟨p2.2, p2.1, by rw [← ee, ← e2]; rfl, R.tups p2 hp2⟩
        · refine wp_if_neg (by decide) ?_
          try refine wpAny_bind (wpAny_pure ?_)
          exact rest
    · have met : t.probe (fun i => (es[i]?.map (·.1)).getD 0) (bh P w k) (st.getD (t.probeStart (bh P w k))) = some (.empty (way t.mask (bh P w k) Kn) none) := by
        have e2 : way t.mask (bh P w k) Kn = (nth t.mask (nth t.mask (t.probeStart (bh P w k)) c) (Kn - c)).j := by rw [jj, show c + (Kn - c) = Kn by omega]
        rw [hst, e2]; exact hpr
      rw [met]
      dsimp only
      refine wpAny_pure (no fun hm => ?_)
      obtain ⟨p1, h0, hk0⟩ := List.mem_map.mp hm
      obtain ⟨i0, hi0, e0⟩ := List.getElem_of_mem h0
      have h00 : l[i0]? = some p1 := by rw [List.getElem?_eq_getElem hi0, e0]
      obtain ⟨c', a1, a2, a3⟩ := ahead i0 p1 h00 hk0
      exact hno (c' - c) i0 (by omega) (by rw [jj, show c + (c' - c) = c' by omega]; exact a3) ((hash_at i0 p1 h00).trans (congrArg (bh P w) hk0))
theorem lookB (R : BSet P w s.heap a l es ep t) {x : Addr} {k : List Bool} (hx : IsB P w s.heap k x) (hu : A.units < cLine) {Q : SetFound → Shared → Prop} (yes : k ∈ l.map (·.2) → Q (.there none) s)
    (no : ∀ Kn, k ∉ l.map (·.2) → way t.mask (bh P w k) Kn ∉ t.place.toList → (∀ c, c < Kn → way t.mask (bh P w k) c ∈ t.place.toList) → Q (.free (way t.mask (bh P w k) Kn) false) s) :
    wpAny (model P w) A (setSearch a (.ref x) (bh P w k) true) Q E s := by
  obtain ⟨Kn, h1, h2, h3⟩ := R.tab.first (by rw [List.length_map]; exact R.small) (bh P w k)
  have bound : 10 * SetTable.turns t.mask ≤ 1420 := by
    unfold SetTable.turns
    rcases R.tab.mok with e | e | e <;> omega
  unfold setSearch
  refine findB R hx hu h1 h2 h3 yes (fun n => no Kn n h2 h3) 100000 0 none rfl (Nat.zero_le _) (by omega) fun i p hp hk => ?_
  have hil := (List.getElem?_eq_some_iff.mp hp).1
  have hj := List.getElem?_eq_getElem (R.place hil)
  obtain ⟨c, hc, e⟩ := R.tab.before h2 (i := i) (by rw [List.getElem?_map, hp, ← hk]; rfl) hj
  exact ⟨c, Nat.zero_le _, hc, by rw [hj, e]⟩
/-- a tuple isn't the set -/
theorem isB_same {h h' : Heap} {k : List Bool} {b : Addr} {o : Obj} (hb : IsB P w h k b) (ho : h.get? a = some o) (hd : o.data = .set es ep t) (hs : Heap.SameBut a h h') : IsB P w h' k b := by
  obtain ⟨u, its, n, hu, hc, hd', hi⟩ := hb
  refine ⟨u, its, n, (hs.2 b fun e => ?_).trans hu, hc, hd', hi⟩
  subst e
  rw [ho] at hu
  rw [← Option.some.inj hu, hd] at hd'
  exact nomatch hd'
theorem pick_all {α : Type} (xs : List α) : ∀ n, n ≤ xs.length → (List.range n).filterMap (fun i => xs[i]?) = xs.take n
  | 0, _ => by simp
  | n + 1, h => by
    rw [List.range_succ, List.filterMap_append, pick_all xs n (by omega), List.take_succ, List.getElem?_eq_getElem (by omega : n < xs.length)]
    simp [List.getElem?_eq_getElem (by omega : n < xs.length)]
/-- the rows in another order -/
theorem reorder (hr : es.toList = l.map (rowB P w)) {order : Array Nat} (hp : order.toList.Perm (List.range l.length)) :
    ∃ m : List (Addr × List Bool), (order.filterMap (es[·]?)).toList = m.map (rowB P w) ∧ m.Perm l ∧ (m.map fun p => bh P w p.2) = order.toList.map fun i => (es.map (·.1)).getD i 0 := by
  have ent : ∀ i, es[i]? = (l[i]?).map (rowB P w) := fun i => by rw [← Array.getElem?_toList, hr, List.getElem?_map]
  have each : ∀ ix : List Nat, (∀ i ∈ ix, i < l.length) → ix.filterMap (fun i => es[i]?) = (ix.filterMap fun i => l[i]?).map (rowB P w) ∧ ((ix.filterMap fun i => l[i]?).map fun p => bh P w p.2) = ix.map fun i => (es.map (·.1)).getD i 0 := by
    intro ix
    induction ix with
    | nil => intro _; exact ⟨rfl, rfl⟩
    | cons i ix ih =>
      intro hl
      obtain ⟨e1, e2⟩ := ih fun j hj => hl j (List.mem_cons_of_mem _ hj)
      have hi := hl i List.mem_cons_self
      have hg : l[i]? = some l[i] := List.getElem?_eq_getElem hi
      have he : es[i]? = some (rowB P w l[i]) := by rw [ent, hg]; rfl
      rw [List.filterMap_cons_some he, List.filterMap_cons_some hg, List.map_cons, List.map_cons, List.map_cons, e1, e2]
      refine ⟨rfl, ?_⟩
      congr 1
      have : (es.map (·.1))[i]? = some (bh P w (l[i]).2) := by rw [Array.getElem?_map, he]; rfl
      simp [Array.getD_eq_getD_getElem?, this]
  obtain ⟨e1, e2⟩ := each order.toList fun i hi => List.mem_range.mp (hp.mem_iff.mp hi)
  refine ⟨order.toList.filterMap fun i => l[i]?, by first | (rw [Array.toList_filterMap]; exact e1) | simpa using e1, ?_, e2⟩
  have := hp.filterMap fun i => l[i]?
  rw [pick_all l _ (Nat.le_refl _), List.take_length] at this
  exact this
/-- one more -/
theorem addB (R : BSet P w s.heap a l es ep t) {x : Addr} {k : List Bool} (hx : IsB P w s.heap k x) (hu : A.units < cLine) (hfew : l.length < 17) {Q : Bool → Shared → Prop}
    (q : ∀ b h' l' es' ep' t', Heap.SameBut a s.heap h' → BSet P w h' a l' es' ep' t' → (k ∈ l.map (·.2) → l' = l) → (k ∉ l.map (·.2) → l'.Perm ((x, k) :: l)) → Q b { s with heap := h' }) :
    wpAny (model P w) A (setAddHashed a (.ref x) (bh P w k)) Q E s := by
  obtain ⟨o, ho, hex, hd⟩ := R.obj
  have hsl := rows_size R.rows
  unfold setAddHashed
  refine wpAny_holding ?_
  rw [show (100000 : Nat) = 99999 + 1 from rfl, setAddHashedIn_succ]
  refine wpAny_bind (wpAny_setState_of ho hd R.fits ?_)
  dsimp only
  refine wp_if_neg (by simp [byScan, Value.scannable]) ?_
  try refine wpAny_bind (wpAny_pure ?_)
  refine wpAny_bind (lookB R hx hu (fun hm => ?_) fun Kn hm hK hb => ?_)
  · dsimp only
    exact wpAny_pure (q false s.heap l es ep t (Heap.SameBut.refl a s.heap) R (fun _ => rfl) fun z => absurd hm z)
  dsimp only
  refine wpAny_bind (wpAny_setState_of ho hd R.fits ?_)
  dsimp only
  obtain ⟨q1, q2, q3, q4, q5, q6, q7, q8, q9⟩ := R.tab.put hK hb
  have pl : (t.put (way t.mask (bh P w k) Kn)).1.plain = true := by rw [q6]; exact R.pln
  generalize t.put (way t.mask (bh P w k) Kn) = pt at q1 q3 q4 q5 q6 q7 q8 q9 pl ⊢
  obtain ⟨t1, j⟩ := pt
  dsimp only at q1 q3 q4 q5 q6 q7 q8 q9 pl ⊢
  subst q1
  first
    | (refine wpAny_bind ?_; refine wp_if_pos pl ?_; refine byv_tB hx ?_)
    | refine wp_if_pos pl (wpAny_bind (byv_tB hx ?_))
  simp only [if_true]
  have rows1 : (SetTable.insertAt es (SetTable.below t.place (way t.mask (bh P w k) Kn)) (bh P w k, Value.ref x)).toList = (l.take (SetTable.below t.place (way t.mask (bh P w k) Kn)) ++ (x, k) :: l.drop (SetTable.below t.place (way t.mask (bh P w k) Kn))).map (rowB P w) := by
    rw [SetTable.toList_insertAt, R.rows, List.map_append, List.map_cons, List.map_take, List.map_drop]; rfl
  generalize SetTable.below t.place (way t.mask (bh P w k) Kn) = j at q2 q3 rows1 ⊢
  have pm := put_perm l j (x, k)
  have hashes : (l.take j ++ (x, k) :: l.drop j).map (fun p => bh P w p.2) = (l.map fun p => bh P w p.2).take j ++ bh P w k :: (l.map fun p => bh P w p.2).drop j := by
    rw [List.map_append, List.map_cons, List.map_take, List.map_drop]
  rw [← hashes] at q3
  have uniq1 : ((l.take j ++ (x, k) :: l.drop j).map (·.2)).Nodup := (pm.map (·.2)).nodup_iff.mpr (List.nodup_cons.mpr ⟨hm, R.uniq⟩)
  have len1 : (l.take j ++ (x, k) :: l.drop j).length = l.length + 1 := pm.length_eq
  have size1 := rows_size rows1
  rw [len1] at size1
  generalize SetTable.insertAt es j (bh P w k, Value.ref x) = es1 at rows1 size1 ⊢
  generalize l.take j ++ (x, k) :: l.drop j = l1 at pm len1 q3 uniq1 rows1
  refine wpAny_bind (wpAny_storeSet_of ho hd ?_ (by rw [size1, sizeLine_eq]; omega))
  have sb : Heap.SameBut a s.heap (s.heap.update a (Obj.putSet es1 t1)) := Heap.SameBut.update ..
  have ho1 := store_at (es' := es1) (t' := t1) ho hd
  generalize s.heap.update a (Obj.putSet es1 t1) = h1 at sb ho1 ⊢
  have tups1 : ∀ p ∈ l1, IsB P w h1 p.2 p.1 := fun p hp => by
    rcases List.mem_cons.mp (pm.mem_iff.mp hp) with e | hp
    · rw [e]; exact isB_same hx ho hd sb
    · exact isB_same (R.tups p hp) ho hd sb
  have ord1 : w.params.followText "set-order" = true ∨ t1.led = true := by rw [q5]; exact R.ord
  have fill1 : t1.fill = l.length + 1 := by rw [q9, List.length_map]
  by_cases full : t1.tooFull = true
  · first
      | (refine wpAny_bind ?_; refine wp_if_pos (by simp [full]) ?_)
      | (refine wp_if_pos (by simp [full]) ?_; refine wpAny_bind ?_)
    have much : (l.length + 1) * 5 ≥ t1.mask * 3 := by
      have z := full
      unfold SetTable.tooFull at z
      rw [decide_eq_true_eq, fill1] at z
      exact z
    rw [q4] at much
    have four : t.mask = 7 ∧ l.length = 4 := by rcases R.few with ⟨e, f⟩ | ⟨e, f⟩ <;> (rw [e] at much; omega)
    rw [hsl, four.2]
    -- laid anew
    have place1 : t1.place.size = es1.size := by
      have z := q3.sz
      rw [List.length_map, len1] at z
      rw [z, size1]
    have fits1 : t1.fits es1.size = true := by
      unfold SetTable.fits SetTable.fill
      rw [q3.dm, Bool.and_eq_true, beq_iff_eq, decide_eq_true_eq]
      show t1.place.size = es1.size ∧ t1.place.size + 0 ≤ t1.mask
      omega
    obtain ⟨t2, order, e, hp, T, em, el, ep2, ed⟩ := relaid_ok t1 (hs := es1.map (·.1)) (wanted := SetTable.grown (4 + 1)) (M := 31) (by rw [size_20]) (.inr (.inl rfl)) (by rw [Array.size_map]; omega)
    rw [Array.size_map, size1, ← len1] at hp
    obtain ⟨m, r1, r2, r3⟩ := reorder rows1 hp
    rw [← r3] at T
    have size2 : (order.filterMap (es1[·]?)).size = es1.size := by rw [rows_size r1, r2.length_eq, len1, size1]
    rw [setRelay_eq]
    refine wpAny_bind (wpAny_setState_of (s := { s with heap := h1 }) ho1 rfl fits1 ?_)
    dsimp only
    refine wp_if_neg (by rw [size_20, sizeLine_eq]; omega) ?_
    try refine wpAny_bind (wpAny_pure ?_)
    rw [e]
    dsimp only
    refine wpAny_bind (wp_if_neg (by rw [size2]; simp) ?_)
    try refine wpAny_bind (wpAny_pure ?_)
    refine wpAny_pure ?_
    dsimp only
    refine wpAny_storeSet_of (s := { s with heap := h1 }) ho1 rfl ?_ (by rw [size2, size1, sizeLine_eq]; omega)
    have sb2 : Heap.SameBut a h1 (h1.update a (Obj.putSet (order.filterMap (es1[·]?)) t2)) := Heap.SameBut.update ..
    refine wpAny_pure (q true _ m _ (ep + 1 + 1) t2 (sb.trans sb2) ⟨⟨_, store_at ho1 rfl, ⟨hex.1, hex.2.1, hex.2.2⟩, rfl⟩, r1, T, (r2.map (·.2)).nodup_iff.mpr uniq1, fun p hpm => isB_same (tups1 p (r2.mem_iff.mp hpm)) ho1 rfl sb2, by rw [ep2]; exact pl, by rw [el]; exact ord1, .inr ⟨em, by rw [r2.length_eq, len1]; omega⟩⟩ (fun z => absurd z hm) fun _ => r2.trans pm)
  · first
      | refine wp_if_neg (by simp [full]) ?_
      | (refine wpAny_bind ?_; refine wp_if_neg (by simp [full]) ?_; refine wpAny_pure ?_)
    refine wpAny_pure (q true h1 l1 es1 (ep + 1) t1 sb ⟨⟨_, ho1, ⟨hex.1, hex.2.1, hex.2.2⟩, rfl⟩, rows1, q3, uniq1, tups1, pl, ord1, ?_⟩ (fun z => absurd z hm) fun _ => pm)
    have z := full
    unfold SetTable.tooFull at z
    rw [decide_eq_true_eq, fill1] at z
    rw [len1, q4]
    rw [q4] at z
    rcases R.few with ⟨e, f⟩ | ⟨e, f⟩
    · exact .inl ⟨e, by rw [e] at z; omega⟩
    · exact .inr ⟨e, by omega⟩
end
/-! ### set(xs), xs a list: one added after the other -/
section
variable {P : Program} {w : World} {A : Around} {E : Value → Shared → Prop} {s : Shared}
abbrev set0 (w : World) : Obj := { cls := .type "set", dict := none, data := .set #[] 0 (.fresh 0 0 (!w.params.followText "set-order")) }
/-- what holds of the set S behind i items: it stands while S and the old objects stand; an item more -/
structure Grows (P : Program) (w : World) (A : Around) (S : Addr) (h0 : Heap) (items : List Value) (J : Nat → Heap → Prop) : Prop where
  keep : ∀ i h h', J i h → (∀ o, h.get? S = some o → h'.get? S = some o) → (∀ b o, h0.get? b = some o → h'.get? b = some o) → J i h'
  add : ∀ (E : Value → Shared → Prop) (i : Nat) (v : Value) (s : Shared) (Q : Bool → Shared → Prop), items[i]? = some v → J i s.heap → (∀ b o, h0.get? b = some o → s.heap.get? b = some o) →
    (∀ (b : Bool) (h' : Heap) (tk : Nat), Heap.SameBut S s.heap h' → J (i + 1) h' → s.toks ≤ tk → Q b { s with heap := h', toks := tk }) → wpAny (model P w) A (setAdd S v) Q E s
theorem grow_loop {I : Addr} {fp wr : List Addr} {G : Array GenState → Array GenState → Prop} {St : Nat → Shared → Prop} {S : Addr} {h0 : Heap} {items : List Value} {J : Nat → Heap → Prop} {R : Result → Shared → Prop}
    (W : WalksS P w A.in1 I fp wr G items.length (fun i v => items[i]? = some v) St) (g : Grows P w A.in1 S h0 items J) (out : S ∉ fp) (new : h0.get? S = none) (wnew : ∀ b ∈ wr, h0.get? b = none) :
    ∀ (left i : Nat) (s : Shared), left + i = items.length → St i s → J i s.heap → (∀ b o, h0.get? b = some o → s.heap.get? b = some o) →
      (∀ s', Moved (S :: wr) G s s' → J items.length s'.heap → (∀ b o, h0.get? b = some o → s'.heap.get? b = some o) → R (.ok (.ret .none)) s') →
      codeAny (model P w) A (.builtin "set.update.loop" ⟨[.ref S, .ref I], []⟩) R s := by
  have outw : S ∉ wr := fun z => out (W.sub _ z)
  have sub : ∀ b ∈ wr, b ∈ S :: wr := fun b z => List.mem_cons_of_mem _ z
  have old : ∀ {s s' : Shared}, Moved wr G s s' → (∀ b o, h0.get? b = some o → s.heap.get? b = some o) → ∀ b o, h0.get? b = some o → s'.heap.get? b = some o := fun m k b o e =>
    m.heap b o (fun z => by rw [wnew b z] at e; cases e) (k b o e)
  intro left
  induction left with
  | zero =>
    intro i s hi st j k fin
    have hin : i = items.length := by omega
    subst hin
    refine codeAny_builtin PyProof.Rows.F.entry_set_update_loop ?_
    rw [Around.under_plainId PyProof.Rows.F.plain_set_update_loop _]
    show wpAny _ A.in1 (pyNext (.ref I) >>= _) _ _ s
    refine wpAny_bind (W.done s _ _ st fun s' m => ?_)
    show wpAny _ A.in1 (ret Value.none) _ _ s'
    exact wpAny_pure (fin s' (m.mono sub) (g.keep _ _ _ j (fun o e => m.heap S o outw e) (old m k)) (old m k))
  | succ left ih =>
    intro i s hi st j k fin
    refine codeAny_builtin PyProof.Rows.F.entry_set_update_loop ?_
    rw [Around.under_plainId PyProof.Rows.F.plain_set_update_loop _]
    show wpAny _ A.in1 (pyNext (.ref I) >>= _) _ _ s
    refine wpAny_bind (W.item i s _ _ (by omega) st fun v s' hv st' m => ?_)
    have k' := old m k
    show wpAny _ A.in1 (holding [v] (setAdd S v) >>= _) _ _ s'
    refine wpAny_bind (wpAny_holding (g.add _ i v s' _ hv (g.keep _ _ _ j (fun o e => m.heap S o outw e) k') k' fun b h' tk sb j2 ht => ?_))
    have k2 : ∀ b o, h0.get? b = some o → h'.get? b = some o := fun b o e => (sb.2 b fun z => by rw [z, new] at e; cases e).trans (k' b o e)
    refine wpAny_pure ⟨plainId_quiet PyProof.Rows.F.plain_set_update_loop _, ih (i + 1) _ (by omega) (W.frame _ s' _ _ st' ht fun b z o e => ?_) j2 k2 fun s2 m2 j3 k3 => ?_⟩
    · rw [sb.2 b fun z2 => out (by rw [← z2]; exact z)]; exact e
    · refine fin s2 (Moved.trans W.gtrans ((m.mono sub).then_heap ht fun b o z e => ?_) m2) j3 k3
      rw [sb.2 b fun z2 => z (by rw [z2]; exact List.mem_cons_self)]; exact e
theorem set_made {l : Addr} {items : Array Value} {J : Nat → Heap → Prop} {Q : Value → Shared → Prop} (hh : A.handled = none) (hl : s.heap.IsList l items) (few : items.size ≤ 1000)
    (g : ∀ A' : Around, A'.units = A.units + 3 → Grows P w A' s.heap.objs.size s.heap items.toList J) (j0 : ∀ h, h.get? s.heap.objs.size = some (set0 w) → J 0 h)
    (q : ∀ (h' : Heap) (tk : Nat), J items.size h' → (∀ b o, s.heap.get? b = some o → h'.get? b = some o) → Q (.ref s.heap.objs.size) { s with heap := h', toks := tk }) :
    wpAny (model P w) A (call (.type "set") [.ref l]) Q E s := by
  obtain ⟨c, tl, hmro⟩ := PySem.F.called_set.mro
  have hmade := PySem.F.called_set.made
  have hsub := PySem.F.called_set.sub
  refine wpAny_call (codeAny_of_tree ?_)
  show wpAny _ _ (callAny (.type "set") _) _ _ _
  refine wpAny_pure ⟨Code.quiet_builtin _ (by decide +kernel), codeAny_builtin PySem.F.entry_type_call ?_⟩
  rw [Around.under_plain (weight_type_call_type "set" [.ref l] []) rfl]
  have h1 := PySem.F.called_set.notType
  have h2 := PySem.F.called_set.canCreate
  have hct := PySem.F.typeCall_set_1 (.ref l)
  repeat (any_goals (first | assumption | wp_step))
  refine codeAny_mono (code_set_led1 (.ref l) (E := E) (Q₁ := fun obj s₁ => obj = .ref s.heap.objs.size ∧ s₁ = { s with heap := s.heap.push (set0 w) }) ⟨rfl, rfl⟩) fun r s₁ hr => ?_
  cases r with
  | error e => exact hr
  | ok fl =>
    cases fl with
    | ret obj =>
      obtain ⟨rfl, rfl⟩ := hr
      have made : (s.heap.push (set0 w)).get? s.heap.objs.size = some (set0 w) := Heap.get?_push_size _ rfl
      have hT : Shared.TypeIs { s with heap := s.heap.push (set0 w) } (.ref s.heap.objs.size) "set" := ⟨_, made, rfl⟩
      have hli := PySem.F.called_set.init.lookup
      have hbi := PySem.F.called_set.init.bind (.ref s.heap.objs.size)
      repeat (any_goals (first | assumption | wp_step))
      refine codeAny_mono (codeAny_call_builtin (R := wants (fun r s₂ => r = .none ∧ ∃ h' tk, s₂ = { s with heap := h', toks := tk } ∧ J items.size h' ∧ ∀ b o, s.heap.get? b = some o → h'.get? b = some o) E)
        PySem.F.called_set.init.plain PySem.F.entry_set_init (check_set_init_1 hT ?_)) fun r₂ s₂ hr₂ => ?_
      · obtain ⟨ol, hol, hcl, nl, hdl⟩ := hl
        obtain ⟨ocls, odict, odata, oslots⟩ := ol
        simp only at hcl hdl
        subst hcl hdl
        have hol' : (s.heap.push (set0 w)).get? l = some { cls := .type "list", dict := odict, data := .seq items nl, slots := oslots } := Heap.get?_push_of_some _ hol
        have hsls := PySem.F.sub_list_set
        have hslf := PySem.F.sub_list_frozenset
        have hne : (Value.type "list" == Value.type "dict") = false := by decide
        have il : (s.heap.push (set0 w)).IsList l items := ⟨_, hol', rfl, nl, rfl⟩
        unfold Builtin.«set.__init__» noKeywords Builtin.Frozenset.updateFrom
        generalize hPI : pyIter = PI
        wp_walk
        subst hPI
        refine wpAny_pyIter_list il (wpAny_bind (wpAny_runValue ?_))
        have lS : l < s.heap.objs.size := Heap.lt_size hol
        have hh3 : A.in1.in1.in1.handled = none := by simp [hh]
        have size1 : (s.heap.push (set0 w)).objs.size = s.heap.objs.size + 1 := Heap.size_push ..
        have nI : l ≠ (s.heap.push (set0 w)).objs.size := by rw [size1]; exact Nat.ne_of_lt (Nat.lt_succ_of_lt lS)
        have nS : s.heap.objs.size ∉ [(s.heap.push (set0 w)).objs.size, l] := by
          rw [size1]; simp only [List.mem_cons, List.not_mem_nil, or_false, not_or]; exact ⟨Nat.ne_of_lt (Nat.lt_succ_self _), Nat.ne_of_gt lS⟩
        have fresh : ∀ b, s.heap.objs.size ≤ b → s.heap.get? b = none := fun b hb => by
          cases z : s.heap.get? b with
          | none => rfl
          | some o => exact absurd (Nat.lt_of_lt_of_le (Heap.lt_size z) hb) (Nat.lt_irrefl _)
        have WK := (Walks.list (prog := P) (w := w) hh3 (s.heap.push (set0 w)).objs.size l nI items).toS
        have len : items.size = items.toList.length := by simp
        have pv : (fun (i : Nat) (v : Value) => items[i]? = some v) = fun i v => items.toList[i]? = some v := by funext i v; rw [Array.getElem?_toList]
        rw [pv, len] at WK
        refine grow_loop WK (g _ ?_) nS (fresh _ (Nat.le_refl _)) (fun b hb => fresh b (by rw [List.mem_singleton.mp hb, size1]; exact Nat.le_succ _)) items.toList.length 0 _ (by omega)
          ⟨⟨_, Heap.get?_push_size _ rfl, rfl, rfl⟩, (il.push _)⟩ (j0 _ (Heap.get?_push_of_some _ made)) (fun b o e => Heap.get?_push_of_some _ (Heap.get?_push_of_some _ e)) fun s' m j k => ?_
        · rfl
        · obtain ⟨h', g2, d', tk', os'⟩ := s'
          have eg : g2 = s.gens := m.gens
          have ed : d' = s.drawn := m.drawn
          have eo : os' = s.os := m.os
          subst eg ed eo
          refine wpAny_pure ?_
          show wpAny _ _ (ret Value.none) _ _ _
          exact wpAny_pure ⟨rfl, h', tk', rfl, by rw [len]; exact j, k⟩
      · cases r₂ with
        | error e => exact hr₂
        | ok fl₂ =>
          cases fl₂ with
          | ret r =>
            obtain ⟨rfl, h', tk, rfl, j, k⟩ := hr₂
            repeat (any_goals (first | assumption | wp_step))
            exact q _ _ j k
          | _ => exact hr₂.elim
    | _ => exact hr.elim
end
end Fb
end
section
namespace Fb
open PySem PySem.Spec PyProof.Rows L2
theorem perm_inv {α β : Type} {f : α → β} : ∀ {xs : List β} {l : List α}, xs.Perm (l.map f) → ∃ m : List α, m.Perm l ∧ m.map f = xs
  | [], l, h => by
    have : l.map f = [] := h.symm.eq_nil
    exact ⟨[], by rw [List.map_eq_nil_iff] at this; rw [this], rfl⟩
  | x :: xs, l, h => by
    obtain ⟨y, hy, e⟩ := List.mem_map.mp (h.mem_iff.mp List.mem_cons_self)
    subst e
    obtain ⟨a, b, rfl⟩ := List.append_of_mem hy
    have h2 : (f y :: xs).Perm (f y :: (a ++ b).map f) := h.trans ((List.perm_middle.map f).trans (by rw [List.map_cons]))
    obtain ⟨m, h3, h4⟩ := perm_inv ((List.perm_cons _).mp h2)
    exact ⟨y :: m, (List.Perm.cons y h3).trans List.perm_middle.symm, by rw [List.map_cons, h4]⟩
theorem perm_of_mem {α : Type} [DecidableEq α] : ∀ {a b : List α}, a.Nodup → b.Nodup → (∀ x, x ∈ a ↔ x ∈ b) → a.Perm b
  | [], b, _, _, h => by
    cases b with
    | nil => exact .nil
    | cons y b => exact absurd ((h y).mpr List.mem_cons_self) (by simp)
  | x :: a, b, ha, hb, h => by
    have hx : x ∈ b := (h x).mp List.mem_cons_self
    obtain ⟨u, v, rfl⟩ := List.append_of_mem hx
    have hb2 : (x :: (u ++ v)).Nodup := List.perm_middle.nodup_iff.mp hb
    obtain ⟨n1, n2⟩ := List.nodup_cons.mp hb2
    obtain ⟨m1, m2⟩ := List.nodup_cons.mp ha
    refine (List.Perm.cons x (perm_of_mem m2 n2 fun y => ?_)).trans List.perm_middle.symm
    have hy := h y
    rw [List.mem_cons, List.perm_middle.mem_iff, List.mem_cons] at hy
    constructor
    · intro z
      rcases hy.mp (.inr z) with e | e
      · subst e; exact absurd z m1
      · exact e
    · intro z
      rcases hy.mpr (.inr z) with e | e
      · subst e; exact absurd z n1
      · exact e
/-! ### sets of whole numbers -/
section
variable {X : Cx}
theorem cr_setL (hc : X.calm = true) : CallR X (.type "set") (fun xs H Q => ∃ (l : Addr) (ns : List Int), xs = [V.ref l] ∧ SqL X.K H l (ns.map V.int) ∧ ns.length ≤ 500 ∧
    ∀ (p : Addr) (c : Nat), c ≤ ns.length → H p = none → Q (.ref p) (upd H p (SetO X.w p (fun j => decide (j ∈ ns)) c))) := by
  intro pins s σ H xs us Q I r ⟨l, ns, e, hq, hl, q⟩
  subst e
  rw [Vals.ref1 r]
  obtain ⟨its, rv, pl, hz⟩ := I.list hq
  have are : IntsAre its ns := ints_of_vals rv
  have len : its.length = ns.length := by rw [← rv.length, List.length_map]
  refine set_made (J := fun i h => ∃ c, c ≤ i ∧ SetR X.w h s.heap.objs.size (fun j => decide (j ∈ ns.take i)) c) (I.ok.hd hc) pl.isList (by rw [List.size_toArray, len]; omega) (fun A' _ => ⟨fun i h h' ⟨c, c1, c2⟩ ks _ => ⟨c, c1, c2.at ks⟩, ?_⟩) (fun h hget => ⟨0, Nat.le_refl 0, setR_new_at hget⟩) fun h' tk ⟨c, c1, c2⟩ k => ?_
  · intro E i v s' Q' hv ⟨c, c1, c2⟩ _ q'
    have hil : i < ns.length := by have := (List.getElem?_eq_some_iff.mp hv).1; simpa [len] using this
    obtain ⟨t, et⟩ := PyProof.Rows.IntsAre.int_at are i v (by simpa using hv)
    have hz : ns[i]? = some ns[i] := List.getElem?_eq_getElem hil
    rw [List.getD_eq_getElem?_getD, hz] at et
    subst et
    unfold setAdd
    refine wpAny_holding (wpAny_bind ((intKind X.prog X.w).pyHash (k := ns[i]) (intKind_is _ _ _ _) ?_))
    refine setR_add_hashed (s := { s' with toks := s'.toks + 1 }) c2 (by unfold scanBound; omega) fun h' sb new => ?_
    have new2 : SetR X.w h' s.heap.objs.size (fun j => decide (j ∈ ns.take (i + 1))) (if decide (ns[i] ∈ ns.take i) = true then c else c + 1) := new.congr fun j => by
      show decide (j ∈ ns.take (i + 1)) = (decide (j ∈ ns.take i) || decide (j = ns[i]))
      rw [List.take_succ, hz, Bool.eq_iff_iff]
      simp only [decide_eq_true_eq, Bool.or_eq_true, List.mem_append, Option.toList_some, List.mem_singleton]
    exact q' _ h' _ sb ⟨_, by split <;> omega, new2⟩ (Nat.le_succ _)
  · have e : ns.take its.toArray.size = ns := List.take_of_length_le (by rw [List.size_toArray, len]; exact Nat.le_refl _)
    rw [e] at c2
    exact ⟨.ref s.heap.objs.size, _, I.laid (t' := tk) k (Nat.le_refl _) (setO_new c2), rfl, q _ _ (by rw [List.size_toArray, len] at c1; exact c1) (I.hok.fresh (Nat.le_refl _))⟩
end
section
variable {S : Sc} {δ : List Slot}
/-- sorted(set(e)), e a list of whole numbers -/
theorem i_ssI {e : Expr} {p p2 pos pos2 : Pos} {Q : D → List Slot → Prop} (hg : S.sc.names.lookup ("sorted" : Str) = some .globalImplicit) (hm : S.g.mg "sorted" = none) (hg2 : S.sc.names.lookup ("set" : Str) = some .globalImplicit) (hm2 : S.g.mg "set" = none)
    (h : EvD S e δ fun d δ1 => ∃ ns ms, d = lI ns ∧ ns.length ≤ 50 ∧ (∀ zs : List Int, zs.Pairwise (· < ·) → (∀ k, k ∈ zs ↔ k ∈ ns) → zs = ms) ∧ Q (lI ms) δ1)
    (na : ∀ env, starEach [e] env = (false, eval e env) :: starEach [] env := by intro _; rfl) (nb : ∀ env, starEach [.Call (.Name "set" p2) [e] [] pos2] env = (false, eval (.Call (.Name "set" p2) [e] [] pos2) env) :: starEach [] env := by intro _; rfl) :
    EvD S (.Call (.Name "sorted" p) [.Call (.Name "set" p2) [e] [] pos2] [] pos) δ Q := by
  intro X ok M ad σ H sm
  refine te_of (pe_callB (cr_sortedSet ok.calm) (gl_of ok hg) (mg_of' ok hm) (by decide +kernel) (pa_cons (pe_callTy (cr_setL ok.calm) (gl_of ok hg2) (mg_of' ok hm2) (by decide +kernel) (pa_cons pe_x pa_nil (na _)) (he := na _)) pa_nil (nb _)) (he := nb _)) ?_
  refine te_mono (h X ok M ad σ H sm) fun v H1 ⟨d, δ1, ⟨ns, ms, e1, hl, hs, q⟩, st, dv⟩ => ?_
  subst e1
  cases dv with
  | lst hx ax =>
    rw [dpAll_ints ax] at hx
    refine ⟨_, ns, rfl, SqL.of (mask_some hx).2, by omega, fun a c hc hn => ⟨a, _, c, rfl, upd_same, by omega, fun zs b pw mem len hb => ?_⟩⟩
    have e2 := hs zs pw fun k => by rw [mem k, decide_eq_true_eq]
    subst e2
    have st2 : Same H1 (upd H1 a (SetO X.w a (fun j => decide (j ∈ ns)) c)) := same_new hn
    have tr2 : ∀ x ∈ M, ∃ o, (upd H1 a (SetO X.w a (fun j => decide (j ∈ ns)) c)) x = some o := fun x hx => let ⟨o, z⟩ := st.sm.tr x hx; ⟨o, st2 _ _ z⟩
    obtain ⟨se, dd⟩ := new_lst tr2 hb (ints_dpAll zs)
    exact ⟨_, δ1, q, st.trans (.grow st.sm (st2.trans se)), dd⟩
end
/-! ### sets of tuples of truth values, as a thing of the abstract heap -/
def BSet0 (P : Program) (w : World) (h : Heap) (a : Addr) (l : List (Addr × List Bool)) : Prop := ∃ es ep t, (∃ o, h.get? a = some o ∧ o.ExactSet ∧ o.data = .set es ep t) ∧ es.toList = l.map (rowB P w) ∧ TabOk t (l.map fun p => bh P w p.2) ∧
  (w.params.followText "set-order" = true ∨ t.led = true) ∧ ((t.mask = 7 ∧ l.length ≤ 4) ∨ (t.mask = 31 ∧ l.length ≤ 17))
def setBO (P : Program) (w : World) (a : Addr) (l : List (Addr × List Bool)) : HO := .ext fun h => BSet0 P w h a l
theorem setBO_new {P : Program} {w : World} {H : Hp} {h : Heap} {a : Addr} {l : List (Addr × List Bool)} (R : BSet0 P w h a l) : ObjOk P w H h a (setBO P w a l) := by
  obtain ⟨es, ep, t, ⟨o, ho, r⟩, r2⟩ := id R
  exact ⟨R, ⟨o, ho⟩, fun h1 h2 ⟨es, ep, t, ⟨o, ho, r⟩, r2⟩ k => ⟨es, ep, t, ⟨o, k o ho, r⟩, r2⟩⟩
/-- what the set has got of the first i -/
structure GotB (ks : List (Addr × List Bool)) (i : Nat) (l : List (Addr × List Bool)) : Prop where
  sub : ∀ p ∈ l, p ∈ ks.take i
  all : ∀ p ∈ ks.take i, p.2 ∈ l.map (·.2)
  len : l.length ≤ i
  uniq : (l.map (·.2)).Nodup
section
variable {X : Cx}
theorem cr_setBs (hc : X.calm = true) (hu : X.A.units + 64 < cLine) : CallR X (.type "set") (fun xs H Q => ∃ (a : Addr) (ks : List (Addr × List Bool)), xs = [V.ref a] ∧ SqL X.K H a (ks.map fun p => V.ref p.1) ∧ (∀ p ∈ ks, H p.1 = some (.tup (p.2.map V.bl))) ∧ ks.length ≤ 16 ∧
    ∀ (p : Addr) (l : List (Addr × List Bool)), GotB ks ks.length l → H p = none → Q (.ref p) (upd H p (setBO X.prog X.w p l))) := by
  intro pins s σ H xs us Q I r ⟨a, ks, e, hq, ht, hl, q⟩
  subst e
  rw [Vals.ref1 r]
  obtain ⟨its, rv, pl, hz⟩ := I.list hq
  have eits : its = ks.map fun p => Value.ref p.1 := by
    have : ∀ (ks : List (Addr × List Bool)) (us : List Value), Vals (ks.map fun p => V.ref p.1) us → us = ks.map fun p => Value.ref p.1 := by
      intro ks
      induction ks with
      | nil => intro us r; cases r; rfl
      | cons p ks ih =>
        intro us r
        cases r with
        | cons r1 r2 => cases r1; rw [ih _ r2]; rfl
    exact this ks its rv
  have len : its.length = ks.length := by rw [eits, List.length_map]
  have keyed : ∀ p ∈ ks, IsB X.prog X.w s.heap p.2 p.1 := fun p hp => bkey I (ht p hp)
  refine set_made (J := fun i h => ∃ l es ep t, BSet X.prog X.w h s.heap.objs.size l es ep t ∧ GotB ks i l) (I.ok.hd hc) pl.isList (by rw [List.size_toArray, len]; omega) (fun A' hA => ⟨fun i h h' ⟨l, es, ep, t, R, g⟩ kS k0 => ?_, ?_⟩) (fun h hget => ?_) fun h' tk ⟨l, es, ep, t, R, g⟩ k => ?_
  · obtain ⟨o, ho, r⟩ := R.obj
    refine ⟨l, es, ep, t, ⟨⟨o, kS o ho, r⟩, R.rows, R.tab, R.uniq, fun p hp => ?_, R.pln, R.ord, R.few⟩, g⟩
    obtain ⟨u, its, n, hu, r⟩ := keyed p (List.mem_of_mem_take (g.sub p hp))
    exact ⟨u, its, n, k0 _ _ hu, r⟩
  · intro E i v s' Q' hv ⟨l, es, ep, t, R, g⟩ k0 q'
    obtain ⟨p, hp, ev⟩ : ∃ p, ks[i]? = some p ∧ v = Value.ref p.1 := by
      have hv' : its[i]? = some v := by simpa using hv
      rw [eits, List.getElem?_map] at hv'
      cases hq : ks[i]? with
      | none => rw [hq] at hv'; cases hv'
      | some p => rw [hq] at hv'; exact ⟨p, rfl, (Option.some.inj hv').symm⟩
    subst ev
    have hil := (List.getElem?_eq_some_iff.mp hp).1
    have hk : IsB X.prog X.w s'.heap p.2 p.1 := by
      obtain ⟨u, its, n, hu, r⟩ := keyed p (List.mem_of_getElem? hp)
      exact ⟨u, its, n, k0 _ _ hu, r⟩
    have hun : A'.units < cLine := by omega
    have tk1 : ks.take (i + 1) = ks.take i ++ [p] := by rw [List.take_succ, hp]; rfl
    unfold setAdd
    refine wpAny_holding (wpAny_bind (wpAny_pyHash_tuple hun hk ?_))
    refine addB (s := { s' with toks := s'.toks + (p.2.length + 1) }) R hk hun (by have := g.len; omega) fun b h' l' es' ep' t' sb R' c1 c2 => ?_
    refine q' b h' _ sb ⟨l', es', ep', t', R', ?_⟩ (Nat.le_add_right _ _)
    by_cases c : p.2 ∈ l.map (·.2)
    · rw [c1 c]
      refine ⟨fun x hx => by rw [tk1]; exact List.mem_append_left _ (g.sub x hx), fun x hx => ?_, Nat.le_succ_of_le g.len, g.uniq⟩
      rw [tk1] at hx
      rcases List.mem_append.mp hx with z | z
      · exact g.all x z
      · rw [List.mem_singleton.mp z]; exact c
    · have pm := c2 c
      refine ⟨fun x hx => ?_, fun x hx => ?_, by rw [pm.length_eq, List.length_cons]; exact Nat.succ_le_succ g.len, R'.uniq⟩
      · rw [tk1]
        rcases List.mem_cons.mp (pm.mem_iff.mp hx) with z | z
        · rw [z]; exact List.mem_append_right _ (List.mem_singleton.mpr rfl)
        · exact List.mem_append_left _ (g.sub x z)
      · rw [(pm.map (·.2)).mem_iff, List.map_cons]
        rw [tk1] at hx
        rcases List.mem_append.mp hx with z | z
        · exact List.mem_cons_of_mem _ (g.all x z)
        · rw [List.mem_singleton.mp z]; exact List.mem_cons_self
  · refine ⟨[], #[], 0, _, ⟨⟨_, hget, ⟨rfl, rfl, rfl⟩, rfl⟩, rfl, ⟨List.Pairwise.nil, rfl, rfl, .inl rfl, (fun x hx => by cases hx), fun i h j hi => by simp at hi⟩, List.nodup_nil, (fun p hp => by cases hp), rfl, ?_, .inl ⟨rfl, Nat.zero_le _⟩⟩, ⟨(fun p hp => by cases hp), fun p hp => by simp at hp, Nat.le_refl _, List.nodup_nil⟩⟩
    show _ ∨ (!X.w.params.followText "set-order") = true
    cases X.w.params.followText "set-order"
    · exact .inr rfl
    · exact .inl rfl
  · rw [List.size_toArray, len] at g
    exact ⟨.ref s.heap.objs.size, _, I.laid (t' := tk) k (Nat.le_refl _) (setBO_new ⟨es, ep, t, R.obj, R.rows, R.tab, R.ord, R.few⟩), rfl, q _ l g (I.hok.fresh (Nat.le_refl _))⟩
theorem cr_sortBs {K : PySem.W.Frag} {M : List Addr} (hc : X.calm = true) (hu : X.A.units + 65 < cLine) : CallR X (.builtin "sorted") (fun vs H Q => ∃ (a : Addr) (l : List (Addr × List Bool)), vs = [V.ref a] ∧ H a = some (setBO X.prog X.w a l) ∧ (∀ b ∈ M, ∃ o, H b = some o) ∧ (∀ p ∈ l, mask M H p.1 = some (.tup (p.2.map V.bl))) ∧ (∀ p ∈ l, p.2 ≠ []) ∧ l.length ≤ 16 ∧
    ∀ v H', Same H H' → Da K (mask M H') v (.list ((srtB (l.map (·.2))).map fun k => tB k)) → Q v H') := by
  intro pins s σ H vs us Q I r ⟨a, l, e, ha, tr, ht, hne, hl, q⟩
  subst e
  rw [Vals.ref1 r]
  obtain ⟨es, ep, t, ⟨o, ho, hex, hd⟩, hr, T, od, few⟩ := (I.hok a _ ha).1
  have hs := rows_size hr
  have fits : t.fits es.size = true := by
    have h1 := T.sz
    rw [List.length_map] at h1
    unfold SetTable.fits SetTable.fill
    rw [T.dm, Bool.and_eq_true, beq_iff_eq, decide_eq_true_eq]
    show t.place.size = es.size ∧ t.place.size + 0 ≤ t.mask
    rcases few with ⟨e, f⟩ | ⟨e, f⟩ <;> omega
  refine Calls.call_function_entry PyProof.Rows.kind_sorted PyProof.Rows.plain_sorted PyProof.Rows.entry_sorted (PyProof.Rows.args_sorted1 _) ?_
  unfold Builtin.«sorted»
  refine wpAny_bind (m := checkCount "sorted" 1 1 _) (wpAny_pure ?_)
  refine wpAny_bind (collect_set (A := X.A.in1) (I.ok.hd hc) ⟨o, ho, hex.1, hd⟩ fits (by rw [hs]; unfold scanBound; omega) T.ris od fun s1 out k1 z1 g1 o1 pm => ?_)
  have I1 : L2.Inv X pins σ H s1 := I.call' (ch := []) o1 (Un.kept k1) (I.hok.kept k1) (by rw [g1]; exact I.bare) (fun _ z => nomatch z)
  have e1 : es.toList.map (·.2) = l.map fun p => Value.ref p.1 := by rw [hr, List.map_map]; rfl
  rw [e1] at pm
  obtain ⟨m, pm2, em⟩ := perm_inv pm
  subst em
  have each : ∀ m : List (Addr × List Bool), (∀ p ∈ m, mask M H p.1 = some (.tup (p.2.map V.bl))) → PySem.W.EachIs (TbV (mask M H)) (m.map fun p => Value.ref p.1) (m.map (·.2)) := by
    intro m
    induction m with
    | nil => intro _; exact .nil
    | cons p m ih => intro h; exact .cons ⟨_, rfl, h p List.mem_cons_self⟩ (ih fun p hp => h p (List.mem_cons_of_mem _ hp))
  have ml : m.length ≤ 16 := by rw [pm2.length_eq]; exact hl
  refine wpAny_bind (wpAny_newList ?_ (by rw [List.length_map, sizeLine_eq]; omega))
  refine wpAny_bind (wpAny_holding ?_)
  refine sort_here (K := K) (Q := Q) I1 tr (each m fun p hp => ht p (pm2.mem_iff.mp hp)) (fun k hk => ?_) (by rw [List.length_map]; omega) (A := X.A.in1) (by show X.A.units + 1 + 64 < cLine; omega) (fun v H' se dv => q v H' se ?_) fun s' z => ?_
  · obtain ⟨p, hp, e⟩ := List.mem_map.mp hk
    rw [← e]; exact hne p (pm2.mem_iff.mp hp)
  · rw [srtB_eq (pm2.map (·.2))] at dv; exact dv
  · exact wpAny_pure ⟨_, rfl, z⟩
end
section
variable {S : Sc} {δ : List Slot}
theorem tups_of {K : PySem.W.Frag} {H : Hp} : ∀ {vs : List V} {ks : List (List Bool)}, DaAll K H vs (ks.map fun k => tB k) → ∃ l : List (Addr × List Bool), l.map (·.2) = ks ∧ vs = l.map (fun p => V.ref p.1) ∧ ∀ p ∈ l, H p.1 = some (.tup (p.2.map V.bl))
  | _, [], h => by cases h; exact ⟨[], rfl, rfl, fun _ z => nomatch z⟩
  | _, k :: ks, h => by
    cases h with
    | cons h1 h2 =>
      obtain ⟨l, e1, e2, e3⟩ := tups_of h2
      cases h1 with
      | tup hx ax =>
        rename_i a us
        rw [dpAll_bls ax] at hx
        exact ⟨(a, k) :: l, by rw [List.map_cons, e1], by rw [List.map_cons, e2], fun p hp => by
          rcases List.mem_cons.mp hp with z | z
          · rw [z]; exact hx
          · exact e3 p z⟩
/-- sorted(set(e)), e a list of tuples of truth values -/
theorem i_ssB {e : Expr} {p p2 pos pos2 : Pos} {Q : D → List Slot → Prop} (hg : S.sc.names.lookup ("sorted" : Str) = some .globalImplicit) (hm : S.g.mg "sorted" = none) (hg2 : S.sc.names.lookup ("set" : Str) = some .globalImplicit) (hm2 : S.g.mg "set" = none)
    (h : EvD S e δ fun d δ1 => ∃ ks us : List (List Bool), d = .list (ks.map fun k => tB k) ∧ ks.length ≤ 16 ∧ (∀ k ∈ ks, k ≠ []) ∧ us.Nodup ∧ (∀ k, k ∈ us ↔ k ∈ ks) ∧ Q (.list ((srtB us).map fun k => tB k)) δ1)
    (na : ∀ env, starEach [e] env = (false, eval e env) :: starEach [] env := by intro _; rfl) (nb : ∀ env, starEach [.Call (.Name "set" p2) [e] [] pos2] env = (false, eval (.Call (.Name "set" p2) [e] [] pos2) env) :: starEach [] env := by intro _; rfl) :
    EvD S (.Call (.Name "sorted" p) [.Call (.Name "set" p2) [e] [] pos2] [] pos) δ Q := by
  intro X ok M ad σ H sm
  have hu := hu65 ok
  refine te_of (pe_callB (cr_sortBs (K := S.g.K) (M := M) ok.calm hu) (gl_of ok hg) (mg_of' ok hm) (by decide +kernel) (pa_cons (pe_callTy (cr_setBs ok.calm (by omega)) (gl_of ok hg2) (mg_of' ok hm2) (by decide +kernel) (pa_cons pe_x pa_nil (na _)) (he := na _)) pa_nil (nb _)) (he := nb _)) ?_
  refine te_mono (h X ok M ad σ H sm) fun v H1 ⟨d, δ1, ⟨ks, us, e1, hl, hne, nd, mem, q⟩, st, dv⟩ => ?_
  subst e1
  cases dv with
  | lst hx ax =>
    obtain ⟨l0, f1, f2, f3⟩ := tups_of ax
    subst f2
    have l0l : l0.length = ks.length := by rw [← f1, List.length_map]
    refine ⟨_, l0, rfl, SqL.of (mask_some hx).2, fun p hp => (mask_some (f3 p hp)).2, by omega, fun a l g hn => ⟨a, l, rfl, upd_same, ?_, ?_, ?_, by have := g.len; omega, fun v H' se dd => ?_⟩⟩
    · intro x hx; obtain ⟨o, z⟩ := st.sm.tr x hx; exact ⟨o, same_new hn _ _ z⟩
    · intro p hp
      exact same_mask (same_new hn) _ _ (f3 p (List.mem_of_mem_take (g.sub p hp)))
    · intro p hp
      refine hne _ ?_
      rw [← f1]; exact List.mem_map.mpr ⟨p, List.mem_of_mem_take (g.sub p hp), rfl⟩
    · have pm : (l.map (·.2)).Perm us := perm_of_mem g.uniq nd fun k => by
        rw [mem k, ← f1]
        constructor
        · intro z
          obtain ⟨p, hp, ep⟩ := List.mem_map.mp z
          exact List.mem_map.mpr ⟨p, List.mem_of_mem_take (g.sub p hp), ep⟩
        · intro z
          obtain ⟨p, hp, ep⟩ := List.mem_map.mp z
          rw [← ep]
          exact g.all p (by rw [List.take_length]; exact hp)
      rw [srtB_eq pm] at dd
      exact ⟨_, δ1, q, st.trans (.grow st.sm ((same_new hn).trans se)), dd⟩
end
end Fb
end
section
namespace Fb
open PySem PySem.Spec PyProof.Rows L2
/-! ### the parts of a row of candidates -/
def pat (h : Hist) (makes : List Int) (c : Int) : List Bool := makes.map (brk h c)
def ptT (h : Hist) (left makes : List Int) : List (List Bool × List Int) := grp (pat h makes) left
def due (h : Hist) (left makes : List Int) : List (List Bool) := srtB ((ptT h left makes).map (·.1))
def partOf (h : Hist) (left makes : List Int) (k : List Bool) : List Int := left.filter fun c => decide (pat h makes c = k)
def ptsD (h : Hist) (left makes : List Int) : List (List Bool × List Int) := (due h left makes).map fun k => (k, partOf h left makes k)
def ptD (p : List Bool × List Int) : D := .tuple [tB p.1, tI p.2]
theorem mem_key {t : List (List Bool × List Int)} {k : List Bool} {l : List Int} (h : (k, l) ∈ t) : k ∈ t.map (·.1) := List.mem_map.mpr ⟨(k, l), h, rfl⟩
/-- the table: keys, no two alike; a key's list -/
theorem grp_keys (f : Int → List Bool) (cs : List Int) : ((grp f cs).map (·.1)).Nodup ∧ ∀ k, k ∈ (grp f cs).map (·.1) ↔ ∃ c ∈ cs, f c = k := by
  suffices h : ∀ (n : Nat) (cs : List Int), cs.length = n → ((grp f cs).map (·.1)).Nodup ∧ ∀ k, k ∈ (grp f cs).map (·.1) ↔ ∃ c ∈ cs, f c = k from h cs.length cs rfl
  intro n
  induction n with
  | zero => intro cs h; rw [List.length_eq_zero_iff.mp h]; simp [grp]
  | succ n ih =>
    intro cs h
    rcases List.eq_nil_or_concat cs with e | ⟨l, c, e⟩
    · subst e; simp at h
    · rw [List.concat_eq_append] at e
      subst e
      obtain ⟨h1, h2⟩ := ih l (by simpa using h)
      rw [grp_snoc]
      by_cases m : f c ∈ (grp f l).map (·.1)
      · rw [addC_keys_in m]
        refine ⟨h1, fun k => (h2 k).trans ⟨fun ⟨x, hx, e⟩ => ⟨x, List.mem_append_left _ hx, e⟩, fun ⟨x, hx, e⟩ => ?_⟩⟩
        rcases List.mem_append.mp hx with z | z
        · exact ⟨x, z, e⟩
        · have : x = c := by simpa using z
          subst this
          rw [e] at m
          exact (h2 k).mp m
      · rw [addC_out m, List.map_append, List.nodup_append]
        refine ⟨⟨h1, by simp, fun x hx y hy => ?_⟩, fun k => ?_⟩
        · have : y = f c := by simpa using hy
          rw [this]; intro e; rw [e] at hx; exact m hx
        · rw [List.mem_append, h2 k]
          constructor
          · rintro (⟨x, hx, e⟩ | hk)
            · exact ⟨x, List.mem_append_left _ hx, e⟩
            · have ek : k = f c := by simpa using hk
              exact ⟨c, by simp, ek.symm⟩
          · rintro ⟨x, hx, e⟩
            rcases List.mem_append.mp hx with z | z
            · exact .inl ⟨x, z, e⟩
            · have : x = c := by simpa using z
              subst this
              exact .inr (by simpa using e.symm)
theorem addC_nodup {b : List Bool} {c : Int} {t : List (List Bool × List Int)} : ∀ {k : List Bool} {l : List Int}, (t.map (·.1)).Nodup → (k, l) ∈ t → k ≠ b → (k, l) ∈ addC b c t := by
  induction t with
  | nil => intro k l _ h; cases h
  | cons p r ih =>
    obtain ⟨b', l'⟩ := p
    intro k l nd h hk
    unfold addC
    rcases List.mem_cons.mp h with e | h
    · cases e
      rw [if_neg hk]; exact List.mem_cons_self
    · by_cases e : b' = b
      · rw [if_pos e]; exact List.mem_cons_of_mem _ h
      · rw [if_neg e]; exact List.mem_cons_of_mem _ (ih (List.nodup_cons.mp nd).2 h hk)
theorem addC_own {b : List Bool} {c : Int} {t : List (List Bool × List Int)} : ∀ {l : List Int}, (t.map (·.1)).Nodup → (b, l) ∈ t → (b, l ++ [c]) ∈ addC b c t := by
  induction t with
  | nil => intro l _ h; cases h
  | cons p r ih =>
    obtain ⟨b', l'⟩ := p
    intro l nd h
    unfold addC
    rcases List.mem_cons.mp h with e | h
    · cases e
      rw [if_pos rfl]; exact List.mem_cons_self
    · have nb : b' ≠ b := fun e => by
        subst e
        exact (List.nodup_cons.mp nd).1 (mem_key h)
      rw [if_neg nb]; exact List.mem_cons_of_mem _ (ih (List.nodup_cons.mp nd).2 h)
theorem nodup_same {t : List (List Bool × List Int)} {k : List Bool} {l m : List Int} (nd : (t.map (·.1)).Nodup) (h : (k, l) ∈ t) (g : (k, m) ∈ t) : l = m := by
  induction t with
  | nil => cases h
  | cons p r ih =>
    obtain ⟨h1, h2⟩ := List.nodup_cons.mp nd
    rcases List.mem_cons.mp h with e | h
    · rcases List.mem_cons.mp g with e' | g
      · have := e.trans e'.symm
        cases this; rfl
      · exact absurd (by rw [← e]; exact mem_key g) h1
    · rcases List.mem_cons.mp g with e' | g
      · exact absurd (by rw [← e']; exact mem_key h) h1
      · exact ih h2 h g
/-- a key's list is the like ones in order -/
theorem grp_part (f : Int → List Bool) (cs : List Int) : ∀ k l, (k, l) ∈ grp f cs → l = cs.filter fun c => decide (f c = k) := by
  suffices h : ∀ (n : Nat) (cs : List Int), cs.length = n → ∀ k l, (k, l) ∈ grp f cs → l = cs.filter fun c => decide (f c = k) from h cs.length cs rfl
  intro n
  induction n with
  | zero => intro cs h k l hm; rw [List.length_eq_zero_iff.mp h] at hm; simp [grp] at hm
  | succ n ih =>
    intro cs h k l hm
    rcases List.eq_nil_or_concat cs with e | ⟨u, c, e⟩
    · subst e; simp at h
    · rw [List.concat_eq_append] at e
      subst e
      have ihu := ih u (by simpa using h)
      have nd := (grp_keys f u).1
      have nd2 := (grp_keys f (u ++ [c])).1
      rw [List.filter_append]
      by_cases e : f c = k
      · subst e
        have e1 : [c].filter (fun x => decide (f x = f c)) = [c] := by simp
        rw [e1]
        by_cases m : f c ∈ (grp f u).map (·.1)
        · obtain ⟨⟨k2, l2⟩, hp, ek⟩ := List.mem_map.mp m
          simp only at ek
          subst ek
          rw [grp_snoc] at hm nd2
          rw [nodup_same nd2 hm (addC_own nd hp), ihu _ _ hp]
        · rw [grp_snoc, addC_out m] at hm
          rcases List.mem_append.mp hm with z | z
          · exact absurd (mem_key z) m
          · have : l = [c] := by simpa using z
            subst this
            have : u.filter (fun x => decide (f x = f c)) = [] := by
              rw [List.filter_eq_nil_iff]
              intro x hx
              rw [decide_eq_true_eq]
              intro ex
              exact m (((grp_keys f u).2 _).mpr ⟨x, hx, ex⟩)
            rw [this]; rfl
      · have e1 : [c].filter (fun x => decide (f x = k)) = [] := by simp [e]
        rw [e1, List.append_nil]
        rw [grp_snoc] at hm nd2
        have hk : k ∈ (grp f u).map (·.1) := by
          have := mem_key hm
          have h3 := (grp_keys f (u ++ [c])).2 k
          rw [grp_snoc] at h3
          obtain ⟨x, hx, ex⟩ := h3.mp this
          rcases List.mem_append.mp hx with z | z
          · exact ((grp_keys f u).2 k).mpr ⟨x, z, ex⟩
          · have : x = c := by simpa using z
            subst this
            exact absurd ex e
        obtain ⟨⟨k2, l2⟩, hp, ek⟩ := List.mem_map.mp hk
        simp only at ek
        subst ek
        rw [nodup_same nd2 hm (addC_nodup nd hp (Ne.symm e)), ihu _ _ hp]
end Fb
end
section
namespace Fb
open PySem PySem.Spec PyProof.Rows L2
/-! ### why a useful make is there -/
structure GoodL (h : Hist) (sk left : List Int) : Prop where
  nd : left.Nodup
  sub : ∀ c ∈ left, c ∈ heads h sk
  fil : ∃ p : Int → Bool, left = (heads h sk).filter p
/-- a fold that keeps the first of each proper row -/
def keepF {α β : Type} [DecidableEq β] (row : α → β) (ok : β → Prop) [DecidablePred ok] (s : List β × List α) (m : α) : List β × List α := if ok (row m) ∧ row m ∉ s.1 then (s.1 ++ [row m], s.2 ++ [m]) else s
theorem keepF_inv {α β : Type} [DecidableEq β] (row : α → β) (ok : β → Prop) [DecidablePred ok] : ∀ (ms : List α) (s : List β × List α), s.1 = s.2.map row →
    (ms.foldl (keepF row ok) s).1 = (ms.foldl (keepF row ok) s).2.map row ∧ (∀ b ∈ s.1, b ∈ (ms.foldl (keepF row ok) s).1) ∧ (∀ m ∈ ms, ok (row m) → row m ∈ (ms.foldl (keepF row ok) s).1) ∧ (∀ x ∈ (ms.foldl (keepF row ok) s).2, x ∈ s.2 ∨ (x ∈ ms ∧ ok (row x)))
  | [], s, h => ⟨h, fun _ z => z, fun _ z => by simp at z, fun _ z => .inl z⟩
  | m :: ms, s, h => by
    have h2 : (keepF row ok s m).1 = (keepF row ok s m).2.map row := by
      unfold keepF
      split
      · rw [List.map_append, h]; rfl
      · exact h
    obtain ⟨i1, i2, i3, i4⟩ := keepF_inv row ok ms _ h2
    rw [List.foldl_cons]
    have up : ∀ b ∈ s.1, b ∈ (keepF row ok s m).1 := fun b hb => by
      unfold keepF
      split
      · exact List.mem_append_left _ hb
      · exact hb
    refine ⟨i1, fun b hb => i2 b (up b hb), fun x hx o => ?_, fun x hx => ?_⟩
    · rcases List.mem_cons.mp hx with e | hx
      · subst e
        refine i2 _ ?_
        unfold keepF
        split
        · simp
        · next c => exact Classical.byContradiction fun z => c ⟨o, z⟩
      · exact i3 x hx o
    · rcases i4 x hx with z | z
      · unfold keepF at z
        split at z
        · next c =>
          rcases List.mem_append.mp z with z | z
          · exact .inl z
          · have : x = m := by simpa using z
            subst this
            exact .inr ⟨List.mem_cons_self, c.1⟩
        · exact .inl z
      · exact .inr ⟨List.mem_cons_of_mem _ z.1, z.2⟩
theorem ts_keep (h : Hist) (cs : List (List Int)) : tsStep h cs = keepF (bby h cs) fun r => 0 < r.length ∧ r.length < cs.length := by
  funext s m
  unfold tsStep keepF
  by_cases c : 0 < (bby h cs m).length ∧ (bby h cs m).length < cs.length ∧ bby h cs m ∉ s.1
  · rw [if_pos c, if_pos ⟨⟨c.1, c.2.1⟩, c.2.2⟩]
  · rw [if_neg c, if_neg (fun z => c ⟨z.1.1, z.1.2, z.2⟩)]
theorem um_keep (h : Hist) (left : List Int) : umStep h left = keepF (prt h left) fun r => 0 < r.length ∧ r.length < left.length := by
  funext s m
  unfold umStep keepF
  by_cases c : 0 < (prt h left m).length ∧ (prt h left m).length < left.length ∧ prt h left m ∉ s.1
  · rw [if_pos c, if_pos ⟨⟨c.1, c.2.1⟩, c.2.2⟩]
  · rw [if_neg c, if_neg (fun z => c ⟨z.1.1, z.1.2, z.2⟩)]
theorem tsts_all {h : Hist} {sk : List Int} {m : Int} (hm : m ∈ tst h sk) (o : 0 < (bby h (cls h sk) m).length ∧ (bby h (cls h sk) m).length < (cls h sk).length) : ∃ m' ∈ tsts h sk, bby h (cls h sk) m' = bby h (cls h sk) m := by
  obtain ⟨i1, _, i3, _⟩ := keepF_inv (bby h (cls h sk)) (fun r => 0 < r.length ∧ r.length < (cls h sk).length) (tst h sk) ([], []) rfl
  have := i3 m hm o
  rw [i1] at this
  obtain ⟨m', hm', e⟩ := List.mem_map.mp this
  refine ⟨m', ?_, e⟩
  unfold tsts
  rw [ts_keep]; exact hm'
theorem tsts_sub {h : Hist} {sk : List Int} {m : Int} (hm : m ∈ tsts h sk) : m ∈ tst h sk := by
  obtain ⟨_, _, _, i4⟩ := keepF_inv (bby h (cls h sk)) (fun r => 0 < r.length ∧ r.length < (cls h sk).length) (tst h sk) ([], []) rfl
  unfold tsts at hm
  rw [ts_keep] at hm
  rcases i4 m hm with z | z
  · simp at z
  · exact z.1
theorem usef_all {h : Hist} {sk left : List Int} {m : Int} (hm : m ∈ tsts h sk) (o : 0 < (prt h left m).length ∧ (prt h left m).length < left.length) : usef h sk left ≠ [] := by
  obtain ⟨i1, _, i3, _⟩ := keepF_inv (prt h left) (fun r => 0 < r.length ∧ r.length < left.length) (tsts h sk) ([], []) rfl
  have := i3 m hm o
  rw [i1] at this
  obtain ⟨m', hm', e⟩ := List.mem_map.mp this
  unfold usef
  rw [um_keep]
  intro z
  rw [z] at hm'
  simp at hm'
theorem usef_mem {h : Hist} {sk left : List Int} {m : Int} (hm : m ∈ usef h sk left) : m ∈ tst h sk ∧ 0 < (prt h left m).length ∧ (prt h left m).length < left.length := by
  obtain ⟨_, _, _, i4⟩ := keepF_inv (prt h left) (fun r => 0 < r.length ∧ r.length < left.length) (tsts h sk) ([], []) rfl
  unfold usef at hm
  rw [um_keep] at hm
  rcases i4 m hm with z | z
  · simp at z
  · exact ⟨tsts_sub z.1, z.2⟩
/-- two heads: their marks differ -/
theorem heads_mark {h : Hist} {sk : List Int} {c : Int} (hc : c ∈ heads h sk) : ∃ l, (mark h sk c, l) ∈ clsT h sk ∧ l.headD 0 = c ∧ l ≠ [] := by
  obtain ⟨l, hl, e⟩ := List.mem_map.mp hc
  obtain ⟨p, hp, e2⟩ := List.mem_map.mp hl
  obtain ⟨q1, _, q3⟩ := grp_mem _ _ p hp
  have hcm : c ∈ p.2 := by
    rw [e2, ← e]
    rw [e2] at q1
    cases l with
    | nil => exact absurd rfl q1
    | cons x l => simp
  refine ⟨p.2, ?_, by rw [e2]; exact e, q1⟩
  rw [(q3 c hcm).2]; exact hp
theorem heads_differ {h : Hist} {sk : List Int} {c d : Int} (hc : c ∈ heads h sk) (hd : d ∈ heads h sk) (ne : c ≠ d) : ∃ m ∈ tst h sk, brk h c m ≠ brk h d m := by
  apply Classical.byContradiction
  intro no
  have e : mark h sk c = mark h sk d := by
    unfold mark
    refine List.map_congr_left fun m hm => ?_
    exact Classical.byContradiction fun z => no ⟨m, hm, z⟩
  obtain ⟨l, h1, h2, _⟩ := heads_mark hc
  obtain ⟨l', h3, h4, _⟩ := heads_mark hd
  rw [← e] at h3
  have := nodup_same (grp_keys _ _).1 h1 h3
  subst this
  exact ne (h2.symm.trans h4)
theorem cnt_proper {α : Type} {p : α → Bool} {l : List α} {c d : α} (hc : c ∈ l) (hd : d ∈ l) (h1 : p c = true) (h2 : p d = false) : 0 < (l.filter p).length ∧ (l.filter p).length < l.length := by
  refine ⟨List.length_pos_of_mem (List.mem_filter.mpr ⟨hc, h1⟩), ?_⟩
  have := List.length_filter_lt_length_iff_exists.mpr ⟨d, hd, by simpa using h2⟩
  exact this
theorem split_of {h : Hist} {sk left : List Int} {c d m : Int} (hc : c ∈ left) (hd : d ∈ left) (ne : brk h c m ≠ brk h d m) : 0 < (prt h left m).length ∧ (prt h left m).length < left.length := by
  unfold prt
  cases e1 : brk h c m with
  | true => exact cnt_proper hc hd e1 (by rw [e1] at ne; cases e2 : brk h d m with
                                          | true => rw [e2] at ne; exact absurd rfl ne
                                          | false => rfl)
  | false => exact cnt_proper hd hc (by rw [e1] at ne; cases e2 : brk h d m with
                                          | true => rfl
                                          | false => rw [e2] at ne; exact absurd rfl ne) e1
theorem usef_ne {h : Hist} {sk left : List Int} (g : GoodL h sk left) (l2 : 2 ≤ left.length) : usef h sk left ≠ [] := by
  match left, l2, g with
  | c :: d :: r, _, g =>
    have ne : c ≠ d := fun e => by subst e; have := (List.nodup_cons.mp g.nd).1; simp at this
    have hc := g.sub c (by simp)
    have hd := g.sub d (by simp)
    obtain ⟨m, hm, df⟩ := heads_differ hc hd ne
    -- the row of m is proper
    obtain ⟨lc, kc, ec⟩ := List.mem_map.mp hc
    obtain ⟨ld, kd, ed⟩ := List.mem_map.mp hd
    obtain ⟨ic, hic, gc⟩ := List.getElem_of_mem kc
    obtain ⟨id', hid, gd⟩ := List.getElem_of_mem kd
    have at_ : ∀ {i : Nat} (hi : i < (cls h sk).length), (cls h sk).getD ((i : Nat) : Int).toNat [] = (cls h sk)[i] := fun {i} hi => by
      rw [Int.toNat_natCast, List.getD_eq_getElem?_getD, List.getElem?_eq_getElem hi]; rfl
    have pc : (fun k : Int => brk h (((cls h sk).getD k.toNat []).headD 0) m) (ic : Int) = brk h c m := by show brk h (((cls h sk).getD ((ic : Nat) : Int).toNat []).headD 0) m = _; rw [at_ hic, gc, ec]
    have pd : (fun k : Int => brk h (((cls h sk).getD k.toNat []).headD 0) m) (id' : Int) = brk h d m := by show brk h (((cls h sk).getD ((id' : Nat) : Int).toNat []).headD 0) m = _; rw [at_ hid, gd, ed]
    have mc : (ic : Int) ∈ upto (cls h sk).length := upto_mem.mpr ⟨by omega, by omega⟩
    have md : (id' : Int) ∈ upto (cls h sk).length := upto_mem.mpr ⟨by omega, by omega⟩
    have prop : 0 < (bby h (cls h sk) m).length ∧ (bby h (cls h sk) m).length < (cls h sk).length := by
      have key : 0 < ((upto (cls h sk).length).filter fun k => brk h (((cls h sk).getD k.toNat []).headD 0) m).length ∧ ((upto (cls h sk).length).filter fun k => brk h (((cls h sk).getD k.toNat []).headD 0) m).length < (upto (cls h sk).length).length := by
        cases e1 : brk h c m with
        | true => exact cnt_proper mc md (pc.trans e1) (pd.trans (by rw [e1] at df; cases e2 : brk h d m with
                                          | true => rw [e2] at df; exact absurd rfl df
                                          | false => rfl))
        | false => exact cnt_proper md mc (pd.trans (by rw [e1] at df; cases e2 : brk h d m with
                                          | true => rfl
                                          | false => rw [e2] at df; exact absurd rfl df)) (pc.trans e1)
      rw [upto_len] at key
      exact key
    obtain ⟨m', hm', er⟩ := tsts_all hm prop
    have same : ∀ {i : Nat} (hi : i < (cls h sk).length), brk h (((cls h sk)[i]).headD 0) m' = brk h (((cls h sk)[i]).headD 0) m := fun {i} hi => by
      have mi : (i : Int) ∈ upto (cls h sk).length := upto_mem.mpr ⟨by omega, by omega⟩
      have q : ((i : Int) ∈ bby h (cls h sk) m') ↔ ((i : Int) ∈ bby h (cls h sk) m) := by rw [er]
      unfold bby at q
      rw [List.mem_filter, List.mem_filter, at_ hi] at q
      rw [Bool.eq_iff_iff]
      exact ⟨fun z => (q.mp ⟨mi, z⟩).2, fun z => (q.mpr ⟨mi, z⟩).2⟩
    have df' : brk h c m' ≠ brk h d m' := by
      have e1 := same hic
      have e2 := same hid
      rw [gc, ec] at e1
      rw [gd, ed] at e2
      rw [e1, e2]; exact df
    exact usef_all hm' (split_of (sk := sk) (by simp) (by simp) df')
/-! ### the parts -/
theorem due_mem {h : Hist} {left ms : List Int} {k : List Bool} : k ∈ due h left ms ↔ ∃ c ∈ left, pat h ms c = k := by
  unfold due
  rw [srtB_mem]; exact (grp_keys _ _).2 k
theorem due_nodup {h : Hist} {left ms : List Int} : (due h left ms).Nodup := srtB_nodup (grp_keys _ _).1
theorem due_ne {h : Hist} {left ms : List Int} (hl : left ≠ []) : due h left ms ≠ [] := by
  cases left with
  | nil => exact absurd rfl hl
  | cons c r => exact List.ne_nil_of_mem (due_mem.mpr ⟨c, by simp, rfl⟩)
theorem part_mem {h : Hist} {left ms : List Int} {k : List Bool} {c : Int} : c ∈ partOf h left ms k ↔ c ∈ left ∧ pat h ms c = k := by
  unfold partOf
  rw [List.mem_filter, decide_eq_true_eq]
theorem part_good {h : Hist} {sk left ms : List Int} {k : List Bool} (g : GoodL h sk left) : GoodL h sk (partOf h left ms k) := ⟨g.nd.filter _, fun c hc => g.sub c (part_mem.mp hc).1, by
  obtain ⟨p, e⟩ := g.fil
  exact ⟨fun a => decide (pat h ms a = k) && p a, by unfold partOf; rw [e, List.filter_filter]⟩⟩
theorem part_ne {h : Hist} {left ms : List Int} {k : List Bool} (hk : k ∈ due h left ms) : partOf h left ms k ≠ [] := by
  obtain ⟨c, hc, e⟩ := due_mem.mp hk
  exact List.ne_nil_of_mem (part_mem.mpr ⟨hc, e⟩)
theorem part_lt {h : Hist} {left ms : List Int} {k : List Bool} {m : Int} (hm : m ∈ ms) (sp : 0 < (prt h left m).length ∧ (prt h left m).length < left.length) : (partOf h left ms k).length < left.length := by
  apply Classical.byContradiction
  intro no
  have full : ∀ c ∈ left, pat h ms c = k := by
    have e : (left.filter fun c => decide (pat h ms c = k)).length = left.length := Nat.le_antisymm (List.length_filter_le _ _) (by unfold partOf at no; omega)
    intro c hc
    have := List.length_filter_eq_length_iff.mp e c hc
    simpa using this
  have eqs : ∀ c ∈ left, ∀ d ∈ left, brk h c m = brk h d m := fun c hc d hd => by
    have e := (full c hc).trans (full d hd).symm
    unfold pat at e
    exact List.map_inj_left.mp e m hm
  obtain ⟨p1, p2⟩ := sp
  unfold prt at p1 p2
  obtain ⟨c, hc⟩ := List.exists_mem_of_length_pos p1
  obtain ⟨hc1, hc2⟩ := List.mem_filter.mp hc
  obtain ⟨d, hd, hd2⟩ := List.length_filter_lt_length_iff_exists.mp p2
  have := eqs c hc1 d hd
  rw [hc2] at this
  exact hd2 this.symm
end Fb
end
section
namespace Fb
open PySem PySem.Spec PyProof.Rows L2
theorem len_le_of_sub {α : Type} [DecidableEq α] : ∀ {a b : List α}, a.Nodup → (∀ x ∈ a, x ∈ b) → a.length ≤ b.length
  | [], b, _, _ => Nat.zero_le _
  | x :: a, b, nd, h => by
    obtain ⟨n1, n2⟩ := List.nodup_cons.mp nd
    obtain ⟨u, v, rfl⟩ := List.append_of_mem (h x List.mem_cons_self)
    have := len_le_of_sub (a := a) (b := u ++ v) n2 fun y hy => by
      have := h y (List.mem_cons_of_mem _ hy)
      rcases List.mem_append.mp this with z | z
      · exact List.mem_append_left _ z
      · rcases List.mem_cons.mp z with z | z
        · subst z; exact absurd hy n1
        · exact List.mem_append_right _ z
    rw [List.length_cons, List.length_append, List.length_cons]
    rw [List.length_append] at this
    omega
def subs {α : Type} : List α → List (List α)
  | [] => [[]]
  | x :: xs => subs xs ++ (subs xs).map (x :: ·)
theorem subs_len {α : Type} : ∀ l : List α, (subs l).length = 2 ^ l.length
  | [] => rfl
  | x :: xs => by
    show (subs xs ++ (subs xs).map _).length = _
    rw [List.length_append, List.length_map, subs_len xs, List.length_cons, Nat.pow_succ]; omega
theorem subs_filter {α : Type} (p : α → Bool) : ∀ l : List α, l.filter p ∈ subs l
  | [] => by simp [subs]
  | x :: xs => by
    rw [List.filter_cons]
    show _ ∈ subs xs ++ (subs xs).map _
    split
    · exact List.mem_append_right _ (List.mem_map.mpr ⟨_, subs_filter p xs, rfl⟩)
    · exact List.mem_append_left _ (subs_filter p xs)
/-! ### the rounds, with what was seen -/
abbrev Best := Int × List Int
abbrev Seen := List (List Int × Best)
def getS (s : Seen) (k : List Int) : Option Best := (s.find? fun p => decide (p.1 = k)).map (·.2)
def putS (s : Seen) (k : List Int) (b : Best) : Seen := if (getS s k).isSome then s.map fun p => if p.1 = k then (p.1, b) else p else s ++ [(k, b)]
def maxI : List Int → Int
  | [] => 0
  | [x] => x
  | x :: y :: r => max x (maxI (y :: r))
theorem maxI_spec : ∀ {l : List Int}, l ≠ [] → maxI l ∈ l ∧ ∀ y ∈ l, y ≤ maxI l
  | [], h => absurd rfl h
  | [x], _ => by simp [maxI]
  | x :: y :: r, _ => by
    obtain ⟨h1, h2⟩ := maxI_spec (l := y :: r) (by simp)
    have e : maxI (x :: y :: r) = max x (maxI (y :: r)) := rfl
    rw [e]
    refine ⟨?_, fun z hz => ?_⟩
    · rcases Int.le_total x (maxI (y :: r)) with c | c
      · rw [Int.max_eq_right c]; exact List.mem_cons_of_mem _ h1
      · rw [Int.max_eq_left c]; exact List.mem_cons_self
    · rcases List.mem_cons.mp hz with z1 | z1
      · subst z1; exact Int.le_max_left _ _
      · exact Int.le_trans (h2 z z1) (Int.le_max_right _ _)
def chs (h : Hist) (sk : List Int) (w : Nat) (left : List Int) : List (List Int) := cho (min w (usef h sk left).length) (usef h sk left)
def allStep (f : List Int → Seen → Best × Seen) (a : List Int × Seen) (p : List Bool × List Int) : List Int × Seen := (a.1 ++ [(f p.2 a.2).1.1], (f p.2 a.2).2)
def chStep (f : List Int → Seen → Best × Seen) (h : Hist) (left : List Int) (b : Best × Seen) (ch : List Int) : Best × Seen :=
  if maxI ((ptsD h left ch).foldl (allStep f) ([], b.2)).1 + 1 < b.1.1 then ((maxI ((ptsD h left ch).foldl (allStep f) ([], b.2)).1 + 1, ch), ((ptsD h left ch).foldl (allStep f) ([], b.2)).2) else (b.1, ((ptsD h left ch).foldl (allStep f) ([], b.2)).2)
def rtd (h : Hist) (sk : List Int) (w : Nat) : Nat → List Int → Seen → Best × Seen
  | 0, _, s => ((0, []), s)
  | n + 1, left, s => if left.length < 2 then ((0, []), s) else match getS s left with
    | some b => (b, s)
    | none => (((chs h sk w left).foldl (chStep (rtd h sk w n) h left) (((left.length : Int) + 1, []), s)).1, putS ((chs h sk w left).foldl (chStep (rtd h sk w n) h left) (((left.length : Int) + 1, []), s)).2 left ((chs h sk w left).foldl (chStep (rtd h sk w n) h left) (((left.length : Int) + 1, []), s)).1)
/-! what holds of it -/
def BestOk (h : Hist) (sk : List Int) (w : Nat) (left : List Int) (b : Best) : Prop := (left.length < 2 → b = (0, [])) ∧ (2 ≤ left.length → b.2 ∈ chs h sk w left ∧ b.1 ≤ (left.length : Int) - 1)
structure SeenOk (h : Hist) (sk : List Int) (w : Nat) (s : Seen) : Prop where
  nd : (s.map (·.1)).Nodup
  fil : ∀ p ∈ s, ∃ q : Int → Bool, p.1 = (heads h sk).filter q
  ok : ∀ p ∈ s, BestOk h sk w p.1 p.2
theorem getS_mem {s : Seen} {k : List Int} {b : Best} (h : getS s k = some b) : (k, b) ∈ s := by
  unfold getS at h
  obtain ⟨p, hp, e⟩ := Option.map_eq_some_iff.mp h
  have h1 := List.mem_of_find?_eq_some hp
  have h2 := List.find?_some hp
  simp only [decide_eq_true_eq] at h2
  rw [← h2, ← e]; exact h1
theorem getS_none {s : Seen} {k : List Int} (h : getS s k = none) : k ∉ s.map (·.1) := fun z => by
  obtain ⟨p, hp, e⟩ := List.mem_map.mp z
  unfold getS at h
  rw [Option.map_eq_none_iff, List.find?_eq_none] at h
  have := h p hp
  simp [e] at this
theorem putS_mem {s : Seen} {k : List Int} {b : Best} {p : List Int × Best} (hp : p ∈ putS s k b) : (p.1 = k ∧ p.2 = b) ∨ p ∈ s := by
  unfold putS at hp
  split at hp
  · obtain ⟨q, hq, e⟩ := List.mem_map.mp hp
    by_cases c : q.1 = k
    · rw [if_pos c] at e; subst e; exact .inl ⟨c, rfl⟩
    · rw [if_neg c] at e; subst e; exact .inr hq
  · rcases List.mem_append.mp hp with z | z
    · exact .inr z
    · have : p = (k, b) := by simpa using z
      subst this; exact .inl ⟨rfl, rfl⟩
theorem putS_ok {h : Hist} {sk : List Int} {w : Nat} {s : Seen} {left : List Int} {b : Best} (o : SeenOk h sk w s) (g : GoodL h sk left) (bo : BestOk h sk w left b) : SeenOk h sk w (putS s left b) := by
  refine ⟨?_, fun p hp => ?_, fun p hp => ?_⟩
  · unfold putS
    split
    · have e : (s.map fun p => if p.1 = left then (p.1, b) else p).map (·.1) = s.map (·.1) := by
        rw [List.map_map]
        refine List.map_congr_left fun p _ => ?_
        show (if p.1 = left then (p.1, b) else p).1 = p.1
        split <;> rfl
      rw [e]; exact o.nd
    · next c =>
      have hn := getS_none (s := s) (k := left) (by cases e : getS s left with
        | none => rfl
        | some b => rw [e] at c; exact absurd rfl c)
      rw [List.map_append, List.nodup_append]
      refine ⟨o.nd, by simp, fun x hx y hy => ?_⟩
      have : y = left := by simpa using hy
      subst this
      intro e; subst e; exact hn hx
  · rcases putS_mem hp with ⟨e, _⟩ | z
    · rw [e]; exact g.fil
    · exact o.fil p z
  · rcases putS_mem hp with ⟨e1, e2⟩ | z
    · rw [e1, e2]; exact bo
    · exact o.ok p z
theorem heads_len {h : Hist} {sk : List Int} (o : HOk h) : (heads h sk).length ≤ 6 := by
  unfold heads
  rw [List.length_map]
  unfold cls
  rw [List.length_map]
  exact Nat.le_trans (grp_len _ _) (by rw [upto_len]; exact o.len)
theorem SeenOk.len {h : Hist} {sk : List Int} {w : Nat} {s : Seen} (ho : HOk h) (o : SeenOk h sk w s) : s.length ≤ 64 := by
  have := len_le_of_sub (a := s.map (·.1)) (b := subs (heads h sk)) o.nd fun k hk => by
    obtain ⟨p, hp, e⟩ := List.mem_map.mp hk
    obtain ⟨q, e2⟩ := o.fil p hp
    rw [← e, e2]; exact subs_filter q _
  rw [List.length_map, subs_len] at this
  exact Nat.le_trans this (Nat.pow_le_pow_right (by omega) (heads_len ho))
theorem good_len {h : Hist} {sk left : List Int} (ho : HOk h) (g : GoodL h sk left) : left.length ≤ 6 := by
  obtain ⟨p, e⟩ := g.fil
  rw [e]
  exact Nat.le_trans (List.length_filter_le _ _) (heads_len ho)
theorem umStep_len' {h : Hist} {sk left : List Int} (ho : HOk h) : (usef h sk left).length ≤ 6 := by
  have a : ∀ (ms : List Int) (s : List (List Int) × List Int), (ms.foldl (umStep h left) s).2.length ≤ s.2.length + ms.length := by
    intro ms
    induction ms with
    | nil => intro s; simp
    | cons m ms ih =>
      intro s
      have h1 := ih (umStep h left s m)
      have h2 : (umStep h left s m).2.length ≤ s.2.length + 1 := by unfold umStep; split <;> simp
      rw [List.foldl_cons, List.length_cons]; omega
  have b : ∀ (ms : List Int) (s : List (List Int) × List Int), (ms.foldl (tsStep h (cls h sk)) s).2.length ≤ s.2.length + ms.length := by
    intro ms
    induction ms with
    | nil => intro s; simp
    | cons m ms ih =>
      intro s
      have h1 := ih (tsStep h (cls h sk) s m)
      have h2 : (tsStep h (cls h sk) s m).2.length ≤ s.2.length + 1 := by unfold tsStep; split <;> simp
      rw [List.foldl_cons, List.length_cons]; omega
  have h1 := a (tsts h sk) ([], [])
  have h2 := b (tst h sk) ([], [])
  have h3 : (tst h sk).length ≤ h.length := Nat.le_trans (List.length_filter_le _ _) (by rw [upto_len]; exact Nat.le_refl _)
  have h4 := ho.len
  unfold usef tsts at *
  simp only [List.length_nil] at *
  omega
theorem cho_ne : ∀ {k : Nat} {ns : List Int}, k ≤ ns.length → cho k ns ≠ []
  | 0, _, _ => by simp [cho]
  | k + 1, ns, h => by
    unfold cho
    have ih := cho_ne (k := k) (ns := ns.drop 1) (by rw [List.length_drop]; omega)
    obtain ⟨r, hr⟩ := List.exists_mem_of_ne_nil _ ih
    refine List.ne_nil_of_mem (a := ns.getD 0 0 :: r) (List.mem_flatMap.mpr ⟨0, List.mem_range.mpr (by omega), ?_⟩)
    unfold choP
    exact List.mem_map.mpr ⟨r, hr, rfl⟩
theorem cho_sub : ∀ {k : Nat} {ns r : List Int}, r ∈ cho k ns → r.length = k ∧ r.Sublist ns
  | 0, ns, r, h => by
    simp only [cho, List.mem_singleton] at h
    subst h
    exact ⟨rfl, List.nil_sublist _⟩
  | k + 1, ns, r, h => by
    unfold cho at h
    obtain ⟨p, hp, h⟩ := List.mem_flatMap.mp h
    unfold choP at h
    obtain ⟨q, hq, e⟩ := List.mem_map.mp h
    subst e
    obtain ⟨h1, h2⟩ := cho_sub hq
    have hp' : p < ns.length := List.mem_range.mp hp
    refine ⟨by rw [List.length_cons, h1], ?_⟩
    have e1 : ns.drop p = ns.getD p 0 :: ns.drop (p + 1) := by
      rw [List.drop_eq_getElem_cons hp', List.getD_eq_getElem?_getD, List.getElem?_eq_getElem hp']; rfl
    have : (ns.getD p 0 :: q).Sublist (ns.drop p) := by rw [e1]; exact h2.cons_cons _
    exact this.trans (List.drop_sublist _ _)
theorem chs_mem {h : Hist} {sk left ch : List Int} {w : Nat} (hc : ch ∈ chs h sk w left) : ch.length = min w (usef h sk left).length ∧ ch.Sublist (usef h sk left) := cho_sub hc
theorem chs_good {h : Hist} {sk left ch : List Int} {w : Nat} (g : GoodL h sk left) (l2 : 2 ≤ left.length) (hw : 1 ≤ w) (hc : ch ∈ chs h sk w left) : ch ≠ [] ∧ ch.length ≤ w ∧ ∀ m ∈ ch, m ∈ tst h sk ∧ 0 < (prt h left m).length ∧ (prt h left m).length < left.length := by
  obtain ⟨h1, h2⟩ := chs_mem hc
  have ne := usef_ne g l2
  have pos : 0 < (usef h sk left).length := List.length_pos_iff.mpr ne
  exact ⟨fun e => by rw [e] at h1; simp only [List.length_nil] at h1; omega, by omega, fun m hm => usef_mem (h2.subset hm)⟩
theorem part_small {h : Hist} {sk left ch : List Int} {w : Nat} (g : GoodL h sk left) (l2 : 2 ≤ left.length) (hw : 1 ≤ w) (hc : ch ∈ chs h sk w left) : ∀ p ∈ ptsD h left ch, p.2.length < left.length ∧ p.2 ≠ [] ∧ GoodL h sk p.2 := by
  intro p hp
  obtain ⟨k, hk, e⟩ := List.mem_map.mp hp
  subst e
  obtain ⟨c1, _, c3⟩ := chs_good g l2 hw hc
  obtain ⟨m, hm⟩ := List.exists_mem_of_ne_nil _ c1
  exact ⟨part_lt hm (c3 m hm).2, part_ne hk, part_good g⟩
theorem pts_ne {h : Hist} {left ch : List Int} (hl : left ≠ []) : ptsD h left ch ≠ [] := fun e => due_ne (h := h) (ms := ch) hl (List.map_eq_nil_iff.mp e)
theorem all_ok {h : Hist} {sk : List Int} {w : Nat} {f : List Int → Seen → Best × Seen} {L : Nat} (hf : ∀ l s, l.length < L → l ≠ [] → GoodL h sk l → SeenOk h sk w s → BestOk h sk w l (f l s).1 ∧ SeenOk h sk w (f l s).2) :
    ∀ (ps : List (List Bool × List Int)) (a : List Int × Seen), (∀ p ∈ ps, p.2.length < L ∧ p.2 ≠ [] ∧ GoodL h sk p.2) → SeenOk h sk w a.2 → (∀ x ∈ a.1, x ≤ (L : Int) - 2) →
      SeenOk h sk w (ps.foldl (allStep f) a).2 ∧ (∀ x ∈ (ps.foldl (allStep f) a).1, x ≤ (L : Int) - 2) ∧ (ps.foldl (allStep f) a).1.length = a.1.length + ps.length
  | [], a, _, o, b => ⟨o, b, rfl⟩
  | p :: ps, a, hp, o, b => by
    obtain ⟨p1, p2, p3⟩ := hp p List.mem_cons_self
    obtain ⟨q1, q2⟩ := hf p.2 a.2 p1 p2 p3 o
    have pos : 0 < p.2.length := List.length_pos_iff.mpr p2
    have nb : ∀ x ∈ (allStep f a p).1, x ≤ (L : Int) - 2 := fun x hx => by
      rcases List.mem_append.mp hx with z | z
      · exact b x z
      · have e : x = (f p.2 a.2).1.1 := by simpa using z
        rw [e]
        by_cases c : p.2.length < 2
        · rw [q1.1 c]; show (0 : Int) ≤ _; omega
        · have := (q1.2 (by omega)).2; omega
    obtain ⟨r1, r2, r3⟩ := all_ok hf ps (allStep f a p) (fun x hx => hp x (List.mem_cons_of_mem _ hx)) q2 nb
    refine ⟨r1, r2, ?_⟩
    rw [List.foldl_cons, r3]
    show (a.1 ++ [_]).length + ps.length = _
    simp only [List.length_append, List.length_cons, List.length_nil]; omega
/-- over the choices -/
theorem chF_ok {h : Hist} {sk left : List Int} {w : Nat} {f : List Int → Seen → Best × Seen} (hw : 1 ≤ w) (ne : left ≠ []) (l2 : 2 ≤ left.length) (g : GoodL h sk left)
    (hf : ∀ l s, l.length < left.length → l ≠ [] → GoodL h sk l → SeenOk h sk w s → BestOk h sk w l (f l s).1 ∧ SeenOk h sk w (f l s).2) :
    ∀ (cs : List (List Int)) (b : Best × Seen), (∀ ch ∈ cs, ch ∈ chs h sk w left) → SeenOk h sk w b.2 → (b.1.1 ≤ (left.length : Int) - 1 ∧ b.1.2 ∈ chs h sk w left ∨ b.1.1 = (left.length : Int) + 1) →
      SeenOk h sk w (cs.foldl (chStep f h left) b).2 ∧ ((cs.foldl (chStep f h left) b).1.1 ≤ (left.length : Int) - 1 ∧ (cs.foldl (chStep f h left) b).1.2 ∈ chs h sk w left ∨ cs = [] ∧ (cs.foldl (chStep f h left) b).1.1 = (left.length : Int) + 1) := by
  intro cs
  induction cs with
  | nil => intro b _ o1 o2; exact ⟨o1, o2.imp id fun z => ⟨rfl, z⟩⟩
  | cons ch cs ihc =>
    intro b hcs o1 o2
    have hch := hcs ch List.mem_cons_self
    have ps := part_small g l2 hw hch
    obtain ⟨a1, a2, a3⟩ := all_ok hf (ptsD h left ch) ([], b.2) ps o1 (fun x hx => by simp at hx)
    have ne2 : ((ptsD h left ch).foldl (allStep f) ([], b.2)).1 ≠ [] := fun e => by
      rw [e] at a3
      simp only [List.length_nil] at a3
      exact pts_ne (h := h) (ch := ch) ne (List.length_eq_zero_iff.mp (by omega))
    have mx := a2 _ (maxI_spec ne2).1
    have step : SeenOk h sk w (chStep f h left b ch).2 ∧ (chStep f h left b ch).1.1 ≤ (left.length : Int) - 1 ∧ (chStep f h left b ch).1.2 ∈ chs h sk w left := by
      unfold chStep
      split
      · exact ⟨a1, by show maxI _ + 1 ≤ _; omega, hch⟩
      · next c2 =>
        refine ⟨a1, ?_⟩
        rcases o2 with o2 | o2
        · exact o2
        · exfalso; rw [o2] at c2; omega
    obtain ⟨f1, f2⟩ := ihc (chStep f h left b ch) (fun x hx => hcs x (List.mem_cons_of_mem _ hx)) step.1 (.inl step.2)
    refine ⟨f1, .inl ?_⟩
    rcases f2 with f2 | ⟨f3, f4⟩
    · exact f2
    · rw [List.foldl_cons]
      subst f3
      exact step.2
/-- the value is known along the way -/
theorem chF_way {h : Hist} {sk left : List Int} {w : Nat} {f : List Int → Seen → Best × Seen} {s : Seen} (hw : 1 ≤ w) (ne : left ≠ []) (l2 : 2 ≤ left.length) (g : GoodL h sk left)
    (hf : ∀ l s, l.length < left.length → l ≠ [] → GoodL h sk l → SeenOk h sk w s → BestOk h sk w l (f l s).1 ∧ SeenOk h sk w (f l s).2) (o : SeenOk h sk w s) (i : Nat) :
    SeenOk h sk w (((chs h sk w left).take i).foldl (chStep f h left) (((left.length : Int) + 1, []), s)).2 :=
  (chF_ok hw ne l2 g hf _ _ (fun _ z => List.mem_of_mem_take z) o (.inr rfl)).1
theorem rtd_ok {h : Hist} {sk : List Int} {w : Nat} (hw : 1 ≤ w) : ∀ (n : Nat) (left : List Int) (s : Seen), left.length ≤ n → left ≠ [] → GoodL h sk left → SeenOk h sk w s →
    BestOk h sk w left (rtd h sk w n left s).1 ∧ SeenOk h sk w (rtd h sk w n left s).2
  | 0, left, s, hl, ne, _, _ => absurd (List.length_eq_zero_iff.mp (by omega)) ne
  | n + 1, left, s, hl, ne, g, o => by
    unfold rtd
    by_cases c : left.length < 2
    · rw [if_pos c]
      exact ⟨⟨fun _ => rfl, fun z => by omega⟩, o⟩
    rw [if_neg c]
    cases hg : getS s left with
    | some b => exact ⟨o.ok _ (getS_mem hg), o⟩
    | none =>
      have l2 : 2 ≤ left.length := by omega
      have ih : ∀ l s, l.length < left.length → l ≠ [] → GoodL h sk l → SeenOk h sk w s → BestOk h sk w l (rtd h sk w n l s).1 ∧ SeenOk h sk w (rtd h sk w n l s).2 := fun l s h1 h2 h3 h4 => rtd_ok hw n l s (by omega) h2 h3 h4
      obtain ⟨f1, f2⟩ := chF_ok hw ne l2 g ih (chs h sk w left) (((left.length : Int) + 1, []), s) (fun _ z => z) o (.inr rfl)
      have best : BestOk h sk w left ((chs h sk w left).foldl (chStep (rtd h sk w n) h left) (((left.length : Int) + 1, []), s)).1 := by
        refine ⟨fun z => by omega, fun _ => ?_⟩
        rcases f2 with f2 | ⟨f3, _⟩
        · exact ⟨f2.2, f2.1⟩
        · exact absurd f3 (cho_ne (Nat.min_le_right _ _))
      exact ⟨best, putS_ok f1 g best⟩
end Fb
end
section
namespace Fb
open PySem PySem.Spec PyProof.Rows L2
/-! ### the plan -/
inductive Pln where
  | found (k : Int)
  | round (ms : List Int) (rows : List (List Bool × Pln))
mutual
def plD : Pln → D
  | .found k => .tuple [.str "found", .int k]
  | .round ms rows => .tuple [.str "round", tI ms, .tuple (plRows rows)]
def plRows : List (List Bool × Pln) → List D
  | [] => []
  | (b, p) :: r => .tuple [tB b, plD p] :: plRows r
end
def plRow (q : List Bool × Pln) : D := .tuple [tB q.1, plD q.2]
theorem plRows_map : ∀ rows, plRows rows = rows.map plRow
  | [] => by rw [plRows]; rfl
  | (b, p) :: r => by rw [plRows, plRows_map r]; rfl
theorem plD_round (ms : List Int) (rows : List (List Bool × Pln)) : plD (.round ms rows) = .tuple [.str "round", tI ms, .tuple (rows.map plRow)] := by rw [plD, plRows_map]
theorem plD_found (k : Int) : plD (.found k) = .tuple [.str "found", .int k] := by rw [plD]
def PlOk : Nat → Pln → Prop
  | _, .found _ => True
  | 0, .round _ _ => False
  | n + 1, .round ms rows => rows ≠ [] ∧ rows.length ≤ 6 ∧ ms.length ≤ 6 ∧ ∀ q ∈ rows, PlOk n q.2
mutual
def rof : Pln → Int
  | .found _ => 0
  | .round _ rows => 1 + maxI (rofs rows)
def rofs : List (List Bool × Pln) → List Int
  | [] => []
  | (_, p) :: r => rof p :: rofs r
end
theorem rofs_map : ∀ rows, rofs rows = rows.map fun q => rof q.2
  | [] => by rw [rofs]; rfl
  | (b, p) :: r => by rw [rofs, rofs_map r]; rfl
theorem rof_round (ms : List Int) (rows : List (List Bool × Pln)) : rof (.round ms rows) = 1 + maxI (rows.map fun q => rof q.2) := by rw [rof, rofs_map]
theorem rof_found (k : Int) : rof (.found k) = 0 := by rw [rof]
def pStep (f : List Int → Seen → Pln × Seen) (a : List (List Bool × Pln) × Seen) (p : List Bool × List Int) : List (List Bool × Pln) × Seen := (a.1 ++ [(p.1, (f p.2 a.2).1)], (f p.2 a.2).2)
def pfor (h : Hist) (sk : List Int) (w : Nat) : Nat → List Int → Seen → Pln × Seen
  | 0, _, s => (.found 0, s)
  | n + 1, left, s => if left.length = 1 then (.found (clsOf (cls h sk) (left.headD 0)), s) else
    (.round (rtd h sk w 6 left s).1.2 ((ptsD h left (rtd h sk w 6 left s).1.2).foldl (pStep (pfor h sk w n)) ([], (rtd h sk w 6 left s).2)).1, ((ptsD h left (rtd h sk w 6 left s).1.2).foldl (pStep (pfor h sk w n)) ([], (rtd h sk w 6 left s).2)).2)
def rpl (h : Hist) (sk : List Int) (w : Nat) : Pln := (pfor h sk w 6 (heads h sk) []).1
/-- the rows, one by one -/
theorem pF_ok {h : Hist} {sk : List Int} {w : Nat} {f : List Int → Seen → Pln × Seen} {L : Nat} {G : List Int → Pln → Prop} (hf : ∀ l s, l.length < L → l ≠ [] → GoodL h sk l → SeenOk h sk w s → G l (f l s).1 ∧ SeenOk h sk w (f l s).2) :
    ∀ (ps : List (List Bool × List Int)) (a : List (List Bool × Pln) × Seen), (∀ p ∈ ps, p.2.length < L ∧ p.2 ≠ [] ∧ GoodL h sk p.2) → SeenOk h sk w a.2 →
      SeenOk h sk w (ps.foldl (pStep f) a).2 ∧ ∃ qs, (ps.foldl (pStep f) a).1 = a.1 ++ qs ∧ qs.map (·.1) = ps.map (·.1) ∧ ∀ (i : Nat) p q, ps[i]? = some p → qs[i]? = some q → G p.2 q.2
  | [], a, _, o => ⟨o, [], by simp, rfl, fun i p q z => by simp at z⟩
  | p :: ps, a, hp, o => by
    obtain ⟨p1, p2, p3⟩ := hp p List.mem_cons_self
    obtain ⟨q1, q2⟩ := hf p.2 a.2 p1 p2 p3 o
    obtain ⟨r1, qs, r2, r3, r4⟩ := pF_ok hf ps (pStep f a p) (fun x hx => hp x (List.mem_cons_of_mem _ hx)) q2
    refine ⟨r1, (p.1, (f p.2 a.2).1) :: qs, ?_, ?_, fun i x y hx hy => ?_⟩
    · rw [List.foldl_cons, r2]
      show (a.1 ++ [_]) ++ qs = _
      rw [List.append_assoc]; rfl
    · rw [List.map_cons, List.map_cons, r3]
    · cases i with
      | zero => cases hx; cases hy; exact q1
      | succ i => exact r4 i x y (by simpa using hx) (by simpa using hy)
theorem pts_len {h : Hist} {left ch : List Int} : (ptsD h left ch).length ≤ left.length := by
  unfold ptsD due
  rw [List.length_map, srtB_len, List.length_map]
  exact grp_len _ _
theorem pfor_seen {h : Hist} {sk : List Int} {w : Nat} (ho : HOk h) (hw : 1 ≤ w) (hw3 : w ≤ 3) : ∀ (n : Nat) (left : List Int) (s : Seen), left.length ≤ n → left ≠ [] → GoodL h sk left → SeenOk h sk w s →
    PlOk n (pfor h sk w n left s).1 ∧ SeenOk h sk w (pfor h sk w n left s).2
  | 0, left, s, hl, ne, _, _ => absurd (List.length_eq_zero_iff.mp (by omega)) ne
  | n + 1, left, s, hl, ne, g, o => by
    unfold pfor
    by_cases c : left.length = 1
    · rw [if_pos c]; exact ⟨trivial, o⟩
    rw [if_neg c]
    have pos : 0 < left.length := List.length_pos_iff.mpr ne
    have l2 : 2 ≤ left.length := by omega
    have l6 := good_len ho g
    obtain ⟨b1, b2⟩ := rtd_ok hw 6 left s l6 ne g o
    obtain ⟨b3, _⟩ := b1.2 l2
    have small := part_small g l2 hw b3
    obtain ⟨c1, c2, c3⟩ := chs_good g l2 hw b3
    obtain ⟨r1, qs, r2, r3, r4⟩ := pF_ok (L := left.length) (G := fun _ q => PlOk n q) (fun l s h1 h2 h3 h4 => pfor_seen ho hw hw3 n l s (by omega) h2 h3 h4) (ptsD h left (rtd h sk w 6 left s).1.2) ([], (rtd h sk w 6 left s).2) small b2
    rw [r2]
    have lq : qs.length = (ptsD h left (rtd h sk w 6 left s).1.2).length := by have := congrArg List.length r3; simpa using this
    refine ⟨⟨?_, ?_, by omega, fun q hq => ?_⟩, r1⟩
    · rw [List.nil_append]
      intro e
      rw [e] at lq
      exact pts_ne (h := h) (ch := (rtd h sk w 6 left s).1.2) ne (List.length_eq_zero_iff.mp lq.symm)
    · rw [List.nil_append, lq]
      have := pts_len (h := h) (left := left) (ch := (rtd h sk w 6 left s).1.2)
      omega
    · rw [List.nil_append] at hq
      obtain ⟨i, hi, e⟩ := List.getElem_of_mem hq
      obtain ⟨p, hp⟩ : ∃ p, (ptsD h left (rtd h sk w 6 left s).1.2)[i]? = some p := ⟨_, List.getElem?_eq_getElem (by omega)⟩
      exact r4 i p q hp (by rw [List.getElem?_eq_getElem hi, e])
theorem heads_good {h : Hist} {sk : List Int} : GoodL h sk (heads h sk) := by
  refine ⟨?_, fun _ z => z, ⟨fun _ => true, (List.filter_eq_self.mpr fun _ _ => rfl).symm⟩⟩
  have e : heads h sk = (clsT h sk).map fun p => p.2.headD 0 := by unfold heads cls; rw [List.map_map]; rfl
  rw [e]
  have nd := (grp_keys (mark h sk) (upto h.length)).1
  have key : ∀ p ∈ clsT h sk, mark h sk (p.2.headD 0) = p.1 := fun p hp => by
    obtain ⟨q1, _, q3⟩ := grp_mem _ _ p hp
    refine (q3 _ ?_).2
    cases hq : p.2 with
    | nil => exact absurd hq q1
    | cons x l => simp
  have gen : ∀ t : List (List Bool × List Int), (∀ p ∈ t, mark h sk (p.2.headD 0) = p.1) → (t.map (·.1)).Nodup → (t.map fun p => p.2.headD 0).Nodup := by
    intro t
    induction t with
    | nil => intro _ _; exact List.nodup_nil
    | cons p t ih =>
      intro hk hn
      obtain ⟨n1, n2⟩ := List.nodup_cons.mp hn
      refine List.nodup_cons.mpr ⟨fun z => n1 ?_, ih (fun q hq => hk q (List.mem_cons_of_mem _ hq)) n2⟩
      obtain ⟨q, hq, e⟩ := List.mem_map.mp z
      refine List.mem_map.mpr ⟨q, hq, ?_⟩
      rw [← hk q (List.mem_cons_of_mem _ hq), e, hk p List.mem_cons_self]
  exact gen _ key nd
theorem seen_nil {h : Hist} {sk : List Int} {w : Nat} : SeenOk h sk w [] := ⟨List.nodup_nil, (fun p hp => by cases hp), (fun p hp => by cases hp)⟩
theorem heads_ne {h : Hist} {sk : List Int} (hn : h ≠ []) : heads h sk ≠ [] := by
  unfold heads cls clsT
  rw [List.map_map]
  intro e
  rw [List.map_eq_nil_iff] at e
  have := ((grp_keys (mark h sk) (upto h.length)).2 (mark h sk 0)).mpr ⟨0, upto_mem.mpr ⟨by omega, by have := List.length_pos_iff.mpr hn; omega⟩, rfl⟩
  rw [e] at this
  cases this
end Fb
end
section
namespace Fb
open PySem PySem.Spec PyProof.Rows L2
/-! ### does a plan hold -/
def isS (x : D) (s : Str) : Bool := match x with
  | .str y => y == s
  | _ => false
theorem eqv_str (x : D) (s : Str) : PyData.eqv x (.str s) = isS x s := by cases x <;> simp [PyData.eqv, isS]
def intOf : D → Option Int
  | .int i => some i
  | _ => none
def msOf : D → List Int
  | .tuple ds => ds.filterMap intOf
  | _ => []
def sndD : D → D
  | .tuple [_, q] => q
  | _ => .none
def allIn (left l : List Int) : Bool := left.all fun c => decide (c ∈ l)
def rowsG (ok : D → List Bool → Bool) (f : List Int → D → Bool) : List D → List (List Bool × List Int) → Bool
  | [], [] => true
  | row :: rs, p :: ps => ok row p.1 && f p.2 (sndD row) && rowsG ok f rs ps
  | _, _ => false
def tupOf : D → List D
  | .tuple ds => ds
  | _ => []
/-- a plan holds; am: the makes are fine, ok: a row's pattern is the due one -/
def gh (am : D → Bool) (ok : D → List Bool → Bool) (h : Hist) (sk : List Int) : Nat → List Int → D → Bool
  | r, left, .tuple [x, y] => isS x "found" && (match y with
      | .int c => decide (0 ≤ c ∧ c < ((cls h sk).length : Int)) && allIn left ((cls h sk).getD c.toNat [])
      | _ => false)
  | r + 1, left, .tuple [x, ms, rows] => isS x "round" && (am ms && (match rows with
      | .tuple rs => decide (rs.length = (ptsD h left (msOf ms)).length) && rowsG ok (gh am ok h sk r) rs (ptsD h left (msOf ms))
      | _ => false))
  | _, _, _ => false
/-- texts of data: what the walks need of a plan -/
structure PDb (d : D) : Prop where
  shd : Shd 60 d
  len : ∀ xs, d = .tuple xs → xs.length ≤ 100
  txt : ∀ xs x, d = .tuple xs → xs[0]? = some x → ∃ s : Str, x = .str s
def Sc01 (ts : List D) : Prop := ts.length ≤ 5 ∧ ∀ t ∈ ts, (∃ b, t = .bool b) ∨ t = .int 0 ∨ t = .int 1
structure RowB (row : D) : Prop where
  len : ∀ rs, row = .tuple rs → rs.length ≤ 100
  hd : ∀ rs ts, row = .tuple rs → rs[0]? = some (.tuple ts) → Sc01 ts
def PD : Nat → D → Prop
  | 0, d => PDb d ∧ ∀ xs rows, d = .tuple xs → xs[2]? = some (.tuple rows) → rows.length ≤ 100 ∧ ∀ row ∈ rows, RowB row
  | n + 1, d => (PDb d ∧ ∀ xs rows, d = .tuple xs → xs[2]? = some (.tuple rows) → rows.length ≤ 100 ∧ ∀ row ∈ rows, RowB row) ∧ ∀ xs rows, d = .tuple xs → xs[2]? = some (.tuple rows) → ∀ row ∈ rows, ∀ rs q, row = .tuple rs → rs[1]? = some q → PD n q
theorem PD.b : ∀ {n : Nat} {d : D}, PD n d → PDb d ∧ ∀ xs rows, d = .tuple xs → xs[2]? = some (.tuple rows) → rows.length ≤ 100 ∧ ∀ row ∈ rows, RowB row
  | 0, _, h => h
  | _ + 1, _, h => h.1
theorem PD.down : ∀ {n : Nat} {d : D}, PD (n + 1) d → PD n d
  | 0, d, h => h.1
  | n + 1, d, h => ⟨h.1, fun xs rows e1 e2 row hr rs q e3 e4 => PD.down (h.2 xs rows e1 e2 row hr rs q e3 e4)⟩
theorem PD.le {m n : Nat} {d : D} (h : PD n d) (l : m ≤ n) : PD m d := by
  induction n with
  | zero => have : m = 0 := by omega
            subst this; exact h
  | succ n ih =>
    by_cases c : m = n + 1
    · subst c; exact h
    · exact ih h.down (by omega)
end Fb
end
section
namespace Fb
open PySem PySem.Spec PyProof.Rows L2
section
variable {am : D → Bool} {ok : D → List Bool → Bool} {h : Hist} {sk : List Int} {left : List Int}
theorem gh2 {r : Nat} {x y : D} : gh am ok h sk r left (.tuple [x, y]) = (isS x "found" && (match y with
      | .int c => decide (0 ≤ c ∧ c < ((cls h sk).length : Int)) && allIn left ((cls h sk).getD c.toNat [])
      | _ => false)) := by
  cases r <;> cases y <;> simp [gh]
theorem gh3 {r : Nat} {x ms rows : D} : gh am ok h sk (r + 1) left (.tuple [x, ms, rows]) = (isS x "round" && (am ms && (match rows with
      | .tuple rs => decide (rs.length = (ptsD h left (msOf ms)).length) && rowsG ok (gh am ok h sk r) rs (ptsD h left (msOf ms))
      | _ => false))) := by
  cases rows <;> simp [gh]
theorem gh3z {x ms rows : D} : gh am ok h sk 0 left (.tuple [x, ms, rows]) = false := by simp [gh]
theorem gh_len {r : Nat} {xs : List D} (h2 : xs.length ≠ 2) (h3 : xs.length ≠ 3) : gh am ok h sk r left (.tuple xs) = false := by
  match xs, h2, h3 with
  | [], _, _ => cases r <;> simp [gh]
  | [a], _, _ => cases r <;> simp [gh]
  | [a, b], h2, _ => exact absurd rfl h2
  | [a, b, c], _, h3 => exact absurd rfl h3
  | a :: b :: c :: d :: e, _, _ => cases r <;> simp [gh]
theorem gh_no {r : Nat} {d : D} (hd : ∀ xs, d ≠ .tuple xs) : gh am ok h sk r left d = false := by
  cases d with
  | tuple xs => exact absurd rfl (hd xs)
  | _ => cases r <;> simp [gh]
theorem isS_two {x : D} (h1 : isS x "found" = true) : isS x "round" = false := by
  cases x <;> simp [isS] at h1 ⊢
  subst h1
  decide +kernel
theorem gh_found {r : Nat} {x : D} {ys : List D} (h1 : isS x "found" = true) (h2 : (x :: ys).length ≠ 2) : gh am ok h sk r left (.tuple (x :: ys)) = false := by
  by_cases h3 : (x :: ys).length = 3
  · match ys, h3 with
    | [a, b], _ =>
      cases r with
      | zero => exact gh3z
      | succ r => rw [gh3, isS_two h1, Bool.false_and]
  · exact gh_len h2 h3
theorem gh_other {r : Nat} {x : D} {ys : List D} (h1 : isS x "found" = false) (h2 : isS x "round" = false ∨ (x :: ys).length ≠ 3 ∨ r = 0) : gh am ok h sk r left (.tuple (x :: ys)) = false := by
  by_cases l2 : (x :: ys).length = 2
  · match ys, l2 with
    | [a], _ => rw [gh2, h1, Bool.false_and]
  · by_cases l3 : (x :: ys).length = 3
    · match ys, l3 with
      | [a, b], _ =>
        rcases h2 with h2 | h2 | h2
        · cases r with
          | zero => exact gh3z
          | succ r => rw [gh3, h2, Bool.false_and]
        · exact absurd rfl h2
        · subst h2; exact gh3z
    · exact gh_len l2 l3
end
theorem filter_all {left l : List Int} : ((left.filter fun c => !decide (c ∈ l)).length = 0) ↔ allIn left l = true := by
  unfold allIn
  rw [List.length_eq_zero_iff, List.filter_eq_nil_iff, List.all_eq_true]
  refine forall_congr' fun c => forall_congr' fun _ => ?_
  simp
end Fb
end
section
set_option autoImplicit false
namespace Fb
open PySem PySem.Spec PyProof.Rows L2
/-! ### the texts of patterns -/
def syD : Nat → D
  | 0 => .bool true
  | 1 => .bool false
  | 2 => .int 0
  | _ => .int 1
def decC : Nat → Option Nat
  | 84 => some 0
  | 70 => some 1
  | 48 => some 2
  | 49 => some 3
  | _ => none
theorem shownAll_sy : ∀ ns : List Nat, PyData.shownAll (ns.map syD) = ns.map fun n => (syD n).shown
  | [] => by simp [PyData.shownAll]
  | n :: ns => by rw [List.map_cons, List.map_cons, ← shownAll_sy ns]; simp only [PyData.shownAll]
theorem dec_one {n : Nat} (h : n < 4) : (syD n).shown.cps.toList.filterMap decC = [n] ∧ (syD n).shown.length ≤ 5 := by
  have : n = 0 ∨ n = 1 ∨ n = 2 ∨ n = 3 := by omega
  rcases this with rfl | rfl | rfl | rfl <;> decide +kernel
theorem dec_join : ∀ {ns : List Nat}, (∀ x ∈ ns, x < 4) → (Str.join ", " (ns.map fun n => (syD n).shown)).cps.toList.filterMap decC = ns
  | [], _ => rfl
  | [x], h => (dec_one (h x List.mem_cons_self)).1
  | x :: y :: r, h => by
    have ih := dec_join (ns := y :: r) fun z hz => h z (List.mem_cons_of_mem _ hz)
    have hx := (dec_one (h x List.mem_cons_self)).1
    have hs : (", " : Str).cps.toList.filterMap decC = [] := by decide +kernel
    rw [List.map_cons, List.map_cons, join_cons_cons, cps_toList_append, cps_toList_append, List.filterMap_append, List.filterMap_append, hx, hs, ← List.map_cons (f := fun n => (syD n).shown), ih]
    rfl
def okTx (ns : List Nat) : Bool := decide ((PyData.tuple (ns.map syD)).shown.cps.toList.filterMap decC = ns) && decide ((PyData.tuple (ns.map syD)).shown.length ≤ 60)
theorem sum_le : ∀ {ns : List Nat}, (∀ x ∈ ns, x < 4) → ((ns.map fun n => (syD n).shown).map (·.length)).sum ≤ 5 * ns.length
  | [], _ => by simp
  | x :: r, h => by
    have ih := sum_le (ns := r) fun z hz => h z (List.mem_cons_of_mem _ hz)
    have hx := (dec_one (h x List.mem_cons_self)).2
    simp only [List.map_cons, List.sum_cons, List.length_cons]
    omega
theorem okTx_of {ns : List Nat} (hl : ns.length ≤ 5) (b : ∀ x ∈ ns, x < 4) : okTx ns = true := by
  unfold okTx
  have e : (PyData.tuple (ns.map syD)).shown = tupleText (ns.map fun n => (syD n).shown) := by simp only [PyData.shown]; rw [shownAll_sy]
  rw [e, Bool.and_eq_true, decide_eq_true_eq, decide_eq_true_eq]
  refine ⟨?_, ?_⟩
  · unfold tupleText
    have h1 : ("(" : Str).cps.toList.filterMap decC = [] := by decide +kernel
    have h2 : (Str.ofString (if (ns.map fun n => (syD n).shown).length == 1 then ",)" else ")")).cps.toList.filterMap decC = [] := by
      split <;> decide +kernel
    rw [cps_toList_append, cps_toList_append, List.filterMap_append, List.filterMap_append, dec_join b, h1, List.nil_append]
    show ns ++ _ = ns
    rw [h2, List.append_nil]
  · have := tupleText_len_le (ns.map fun n => (syD n).shown)
    have := sum_le b
    rw [List.length_map] at *
    omega
theorem sc01_ns : ∀ {ts : List D}, (∀ t ∈ ts, (∃ b, t = .bool b) ∨ t = .int 0 ∨ t = .int 1) → ∃ ns : List Nat, (∀ x ∈ ns, x < 4) ∧ ts = ns.map syD
  | [], _ => ⟨[], by simp, rfl⟩
  | t :: ts, h => by
    obtain ⟨ns, h1, h2⟩ := sc01_ns (ts := ts) fun x hx => h x (List.mem_cons_of_mem _ hx)
    have key : ∃ n, n < 4 ∧ t = syD n := by
      rcases h t List.mem_cons_self with ⟨b, e⟩ | e | e
      · cases b
        · exact ⟨1, by omega, e⟩
        · exact ⟨0, by omega, e⟩
      · exact ⟨2, by omega, e⟩
      · exact ⟨3, by omega, e⟩
    obtain ⟨n, hn, e⟩ := key
    refine ⟨n :: ns, fun x hx => ?_, by rw [h2, e]; rfl⟩
    rcases List.mem_cons.mp hx with z | z
    · rw [z]; exact hn
    · exact h1 x z
theorem sc01_B {k : List Bool} (h : k.length ≤ 5) : Sc01 (k.map .bool) := ⟨by rw [List.length_map]; exact h, fun t ht => by
  obtain ⟨b, _, e⟩ := List.mem_map.mp ht
  exact .inl ⟨b, e.symm⟩⟩
theorem shown_inj {ts us : List D} (h : Sc01 ts) (g : Sc01 us) (e : (PyData.tuple ts).shown = (PyData.tuple us).shown) : ts = us := by
  obtain ⟨ns, n1, n2⟩ := sc01_ns h.2
  obtain ⟨ms, m1, m2⟩ := sc01_ns g.2
  have hl := h.1
  have gl := g.1
  subst n2 m2
  rw [List.length_map] at hl gl
  have a := okTx_of hl n1
  have b := okTx_of gl m1
  unfold okTx at a b
  simp only [Bool.and_eq_true, decide_eq_true_eq] at a b
  rw [← a.1, ← b.1, e]
theorem shown_len {ts : List D} (h : Sc01 ts) : (PyData.tuple ts).shown.length ≤ 60 := by
  obtain ⟨ns, n1, n2⟩ := sc01_ns h.2
  have hl := h.1
  subst n2
  rw [List.length_map] at hl
  have a := okTx_of hl n1
  unfold okTx at a
  simp only [Bool.and_eq_true, decide_eq_true_eq] at a
  exact a.2
theorem sc01_shd {ts : List D} (h : Sc01 ts) : Shd 1 (.tuple ts) := shd_tup fun d hd => by
  rcases h.2 d hd with ⟨b, e⟩ | e | e
  · rw [e]; exact shd_bl
  · rw [e]; exact shd_int
  · rw [e]; exact shd_int
theorem sc01_showable {ts : List D} (h : ∀ t ∈ ts, (∃ b, t = .bool b) ∨ t = .int 0 ∨ t = .int 1) : PyData.showableAll ts = true := by
  induction ts with
  | nil => simp [PyData.showableAll]
  | cons t ts ih =>
    have h1 := ih fun x hx => h x (List.mem_cons_of_mem _ hx)
    rcases h t List.mem_cons_self with ⟨b, e⟩ | e | e
    · subst e; simp [PyData.showableAll, PyData.showable, h1]
    · subst e; simp only [PyData.showableAll, PyData.showable, h1, Bool.and_true, decide_eq_true_eq]; decide
    · subst e; simp only [PyData.showableAll, PyData.showable, h1, Bool.and_true, decide_eq_true_eq]; decide
theorem c_repr01 {S : Sc} {ts : List D} (h : Sc01 ts) : CallD S (.builtin "repr") [.tuple ts] (.str (PyData.tuple ts).shown) := by
  refine c_repr (sc01_shd h).lay (by simp only [PyData.showable]; exact sc01_showable h.2) (PyData.hasDict_of_canLay _ (sc01_shd h).lay) (by have := (sc01_shd h).dep; omega) (by have := shown_len h; rw [sizeLine_eq]; omega)
end Fb
end
section
set_option autoImplicit false
namespace Fb
open PySem PySem.Spec PyProof.Rows L2
theorem cut_to {α : Type} {xs : List α} {i : Int} {p : Nat} (e : i = p) : cutD xs none (some i) = xs.take p := by
  subst e
  unfold cutD
  have h0 : HT.sIx xs.length 0 none = 0 := rfl
  have h1 : HT.sIx xs.length xs.length (some (p : Int)) = min p xs.length := HT.sIx_nat _ _ _
  rw [h0, h1, List.drop_zero, Nat.sub_zero]
  rcases Nat.le_total p xs.length with h | h
  · rw [Nat.min_eq_left h]
  · rw [Nat.min_eq_right h, List.take_length, List.take_of_length_le h]
theorem sdn_cut {S : Sc} {n : Nat} {δ : List Slot} {C : Cn} {st : Stmt} {rest : List Stmt} (Mid : List Slot → Prop) (h : SD S st δ { C with nx := Mid }) (k : ∀ δ1, Mid δ1 → SDn S n rest δ1 C) : SDn S n (st :: rest) δ C :=
  sdn_cons (sd_mono h (fun δ1 q => k δ1 q) (fun _ _ q => q) (fun _ q => q) (fun _ q => q))
/-! ### the places of a list -/
def atZ (l : List Int) (j : Int) : Int := l.getD j.toNat 0
theorem map_atZ (l : List Int) : (upto l.length).map (atZ l) = l := by
  refine List.ext_getElem? fun i => ?_
  rw [List.getElem?_map]
  by_cases h : i < l.length
  · have e : (upto l.length)[i]? = some (i : Int) := by
      unfold upto
      rw [List.getElem?_map, List.getElem?_range h]; rfl
    rw [e, List.getElem?_eq_getElem h]
    show some (l.getD ((i : Int)).toNat 0) = _
    rw [Int.toNat_natCast, List.getD_eq_getElem?_getD, List.getElem?_eq_getElem h]; rfl
  · rw [List.getElem?_eq_none (by rw [upto_len]; omega), List.getElem?_eq_none (by omega)]; rfl
theorem filter_atZ (l : List Int) (q : Int → Bool) : ((upto l.length).filter fun j => q (atZ l j)).map (atZ l) = l.filter q := by
  conv => rhs; rw [← map_atZ l]
  rw [List.filter_map]; rfl
theorem atZ_get {l : List Int} {j : Int} (h0 : 0 ≤ j) (h1 : j < (l.length : Int)) : l[j.toNat]? = some (atZ l j) := by
  unfold atZ
  rw [List.getD_eq_getElem?_getD, List.getElem?_eq_getElem (by omega)]; rfl
end Fb
end
section
namespace Fb
open PySem PySem.Spec PyProof.Rows L2
/-! ### dicts keyed by tuples of ints -/
def getT (kvs : List (List Int × D)) (k : List Int) : Option D := (kvs.find? fun p => decide (p.1 = k)).map (·.2)
def putT (kvs : List (List Int × D)) (k : List Int) (d : D) : List (List Int × D) := if (getT kvs k).isSome then kvs.map fun p => if p.1 = k then (p.1, d) else p else kvs ++ [(k, d)]
theorem inl_inj {a b : List Int} (h : a.map (Sum.inl : Int → Key) = b.map Sum.inl) : a = b := by
  induction a generalizing b with
  | nil => cases b with
    | nil => rfl
    | cons y b => cases h
  | cons x a ih =>
    cases b with
    | nil => cases h
    | cons y b =>
      rw [List.map_cons, List.map_cons] at h
      injection h with h1 h2
      injection h1 with h1
      rw [h1, ih h2]
theorem kv_ints (ks : List Int) : (ks.map (Sum.inl : Int → Key)).map kV = ks.map V.int := by rw [List.map_map]; rfl
section
variable {K : PySem.W.Frag} {M : List Addr} {H : Hp} {vs : List (List Key × V)} {kvs : List (List Int × D)} {k : List Int}
theorem drel_len (r : DctRel K M H vs kvs) : vs.length = kvs.length := Paired.length r
theorem drel_get (r : DctRel K M H vs kvs) : match getT kvs k with
    | none => valV vs (k.map Sum.inl) = none
    | some d => ∃ v, valV vs (k.map Sum.inl) = some v ∧ Da K (mask M H) v d := by
  unfold DctRel at r
  induction r with
  | nil => rfl
  | @cons x q xs kvs h _ ih =>
    by_cases c : q.1 = k
    · have e1 : getT (q :: kvs) k = some q.2 := by simp [getT, c]
      rw [e1]
      exact ⟨x.2, by simp [valV, h.1, c], h.2⟩
    · have c' : ¬ x.1 = k.map Sum.inl := fun z => c (inl_inj (h.1.symm.trans z))
      have e1 : getT (q :: kvs) k = getT kvs k := by simp [getT, c]
      have e2 : valV (x :: xs) (k.map Sum.inl) = valV xs (k.map Sum.inl) := by simp [valV, c']
      rw [e1, e2]
      exact ih
theorem drel_some (r : DctRel K M H vs kvs) : (valV vs (k.map Sum.inl)).isSome = (getT kvs k).isSome := by
  have := drel_get (k := k) r
  cases e : getT kvs k with
  | none => rw [e] at this; rw [this]; rfl
  | some d => rw [e] at this; obtain ⟨v, h, _⟩ := this; rw [h]; rfl
theorem drel_put (r : DctRel K M H vs kvs) {v : V} {d : D} (dv : Da K (mask M H) v d) : DctRel K M H (putK vs (k.map Sum.inl) v) (putT kvs k d) := by
  have one : ∀ {x : List Key × V} {q : List Int × D}, (x.1 = q.1.map Sum.inl ∧ Da K (mask M H) x.2 q.2) → ((if x.1 = k.map Sum.inl then (x.1, v) else x).1 = (if q.1 = k then (q.1, d) else q).1.map Sum.inl ∧ Da K (mask M H) (if x.1 = k.map Sum.inl then (x.1, v) else x).2 (if q.1 = k then (q.1, d) else q).2) := fun {x q} h => by
    by_cases c : q.1 = k
    · rw [if_pos (by rw [h.1, c]), if_pos c]; exact ⟨h.1, dv⟩
    · rw [if_neg (fun z => c (inl_inj (h.1.symm.trans z))), if_neg c]; exact h
  unfold putK putT
  rw [valV_any, drel_some r]
  by_cases c : (getT kvs k).isSome = true
  · rw [if_pos c, if_pos c]
    unfold DctRel at r ⊢
    clear c
    induction r with
    | nil => exact .nil
    | cons h _ ih => exact .cons (one h) ih
  · rw [if_neg c, if_neg c]
    exact Paired.snoc r ⟨rfl, dv⟩
end
section
variable {S : Sc} {δ : List Slot} {C : Cn}
/-- y in x -/
theorem et_inD {x : Str} {a : Expr} {np pos : Pos} {i : Nat} {kvs0 : List (List Int × D)} {Q : Bool → List Slot → Prop} (l0 : Look S.N δ x i (.dct kvs0)) (hv : Vis S.sc x)
    (h : EvD S a δ fun y δ1 => ∃ kvs ks, y = tI ks ∧ Look S.N δ1 x i (.dct kvs) ∧ Q (getT kvs ks).isSome δ1) (hm : behindInMarks .In (.Name x np) = false)
    (hd : (x == ("__debug__" : Str)) = false := by decide) (hcd : (x == ("__classdict__" : Str)) = false := by decide) : EtD S (.Compare a [.In] [.Name x np] pos) δ Q := by
  intro X ok M ad σ H sm
  refine tt_of (pt_cmp (pc_din (hu1 ok) pe_x (pe_var (i := i) (by rw [ok.N]; exact l0.name) (vis_of ok hv) hd hcd)) hm) (te_mono (h X ok M ad σ H sm) fun v H1 ⟨y, δ1, ⟨kvs, ks, ey, lk, q⟩, st, dy⟩ => ?_)
  subst ey
  obtain ⟨e1, hM, vs, e2, rel⟩ := st.sm.ok i _ lk.slot
  cases dy with
  | tup hy ay =>
    rw [dpAll_ints ay] at hy
    refine ⟨_, slot_some e1, _, _, rfl, DGet.t e2 (by rw [kv_ints]; exact (mask_some hy).2), _, rfl, δ1, ?_, st⟩
    rw [drel_some rel]; exact q
/-- x[b] -/
theorem ev_ixD {x : Str} {b : Expr} {np pos : Pos} {i : Nat} {kvs0 : List (List Int × D)} {Q : D → List Slot → Prop} (l0 : Look S.N δ x i (.dct kvs0)) (hv : Vis S.sc x)
    (h : EvD S b δ fun y δ1 => ∃ kvs ks z, y = tI ks ∧ Look S.N δ1 x i (.dct kvs) ∧ getT kvs ks = some z ∧ Q z δ1) (hs : NoSl b)
    (hd : (x == ("__debug__" : Str)) = false := by decide) (hcd : (x == ("__classdict__" : Str)) = false := by decide) : EvD S (.Subscript (.Name x np) b pos) δ Q := by
  intro X ok M ad σ H sm
  obtain ⟨f1, _, _, _, _⟩ := sm.ok i _ l0.slot
  refine te_of (pe_dget (hu1 ok) (pe_var (i := i) (by rw [ok.N]; exact l0.name) (vis_of ok hv) hd hcd) pe_x hs) ⟨_, slot_some f1, te_mono (h X ok M ad σ H sm) fun v H1 ⟨y, δ1, ⟨kvs, ks, z, ey, lk, hg, q⟩, st, dy⟩ => ?_⟩
  subst ey
  obtain ⟨e1, hM, vs, e2, rel⟩ := st.sm.ok i _ lk.slot
  have pg := drel_get (k := ks) rel
  rw [hg] at pg
  obtain ⟨w, hw, dw⟩ := pg
  cases dy with
  | tup hy ay =>
    rw [dpAll_ints ay] at hy
    have g := DGet.t e2 (k := ks.map Sum.inl) (by rw [kv_ints]; exact (mask_some hy).2)
    rw [hw] at g
    exact ⟨_, w, rfl, g, z, δ1, q, st, dw⟩
/-- x[k] = e -/
theorem sd_putD {x : Str} {k e : Expr} {np sp pos : Pos} (h : EvD S e δ fun d δ1 => ∃ i kvs0, Look S.N δ1 x i (.dct kvs0) ∧ EvD S k δ1 fun y δ2 => ∃ kvs ks δ3, y = tI ks ∧ LookS S.N δ2 x i (.dct kvs) (.dct (putT kvs ks d)) δ3 ∧ kvs.length ≤ 1000 ∧ C.nx δ3) (hv : Vis S.sc x)
    (hd : (x == ("__debug__" : Str)) = false := by decide) (hcd : (x == ("__classdict__" : Str)) = false := by decide) (hs : ∀ env, swapsWith e (some (.Subscript (.Name x np) k sp)) pos.line env = pure false := by intro _; rfl) : SD S (.Assign [.Subscript (.Name x np) k sp] e pos) δ C := by
  intro X ok B bo σ H ⟨M, ad, p⟩
  let tv : TE := fun σ H Q => ∃ i, X.N[i]? = some x ∧ tVar i σ H Q
  have ptv : PE X (.Name x np) tv := ⟨fun pins s σ H Q I ⟨i, hN, q⟩ => (pe_var (i := i) hN (vis_of ok hv) hd hcd).run pins s σ H Q I q⟩
  refine ts_of (ps_dput (hu1 ok) ptv pe_x pe_x (hs _)) (te_mono (h X ok M ad σ H p.sm) fun v H1 ⟨d, δ1, ⟨i, kvs0, l0, q1⟩, st, dv⟩ => ?_)
  obtain ⟨f1, _, _, _, _⟩ := st.sm.ok i _ l0.slot
  refine ⟨i, by rw [ok.N]; exact l0.name, _, slot_some f1, te_mono (q1 X ok M ad σ H1 st.sm) fun w H2 ⟨y, δ2, ⟨kvs, ks, δ3, ey, lk, hl, q⟩, st2, dw⟩ => ?_⟩
  subst ey
  obtain ⟨e3, hM3, vs, e4, rel⟩ := st2.sm.ok i _ lk.slot
  have hvl := drel_len rel
  cases dw with
  | tup hy ay =>
    rw [dpAll_ints ay] at hy
    refine ⟨_, _, rfl, DPut.t e4 (k := ks.map Sum.inl) (by rw [kv_ints]; exact (mask_some hy).2) (by rw [hvl, sizeLine_eq]; omega), δ3, q, M, ad, ?_⟩
    rw [← lk.eq]
    refine (p.step (st.trans st2)).step (st2.sm.put lk.slot rfl rfl ⟨rfl, hM3, _, upd_same, ?_⟩)
    unfold DctRel
    rw [mask_upd hM3]
    exact drel_put rel (dp_mono (st.sm.same st2.keep) _ dv)
end
/-! ### defs whose last argument is such a dict -/
def SeenC (n : Nat) (R : List D → List (List Int × D) → D → List (List Int × D) → Prop) : Ct := fun δ d δ' => ∃ as kvs kvs', as.length = n ∧ δ = as.map .imm ++ [.dct kvs] ∧ δ' = as.map .imm ++ [.dct kvs'] ∧ R as kvs d kvs'
theorem fin_last {as : List D} {s s' : Slot} {δ1 : List Slot} (h : δ1[as.length]? = some s') : Fin' (as.map .imm ++ [s]) (as.map .imm ++ [s']) δ1 := fun i t e w => by
  by_cases c : i < as.length
  · rw [List.getElem?_append_left (by rw [List.length_map]; exact c), List.getElem?_map, List.getElem?_eq_getElem c] at e
    cases e; cases w
  · have hi := (List.getElem?_eq_some_iff.mp e).1
    rw [List.length_append, List.length_map, List.length_singleton] at hi
    have : i = as.length := by omega
    subst this
    rw [h, List.getElem?_append_right (by rw [List.length_map]; exact Nat.le_refl _), List.length_map, Nat.sub_self]; rfl
abbrev seenR (d : D) (n : Nat) (kvs' : List (List Int × D)) : Cn := { nx := fun δ1 => d = .none ∧ δ1[n]? = some (.dct kvs'), rt := fun e δ1 => e = d ∧ δ1[n]? = some (.dct kvs') }
theorem rg_last {as : List D} {kvs kvs' : List (List Int × D)} : Rg (as.map .imm ++ [.dct kvs]) (as.map .imm ++ [.dct kvs']) := by
  refine ⟨by simp, fun i s h w => ?_⟩
  by_cases c : i < as.length
  · rw [List.getElem?_append_left (by rw [List.length_map]; exact c)] at h ⊢
    exact h
  · have hi := (List.getElem?_eq_some_iff.mp h).1
    rw [List.length_append, List.length_map, List.length_singleton] at hi
    have e : i = as.length := by omega
    subst e
    rw [List.getElem?_append_right (by rw [List.length_map]; exact Nat.le_refl _), List.length_map, Nat.sub_self] at h
    cases h; cases w
theorem mk_seen {g : Ga} {k i n : Nat} {x : Str} {N ps : List Str} {R : List D → List (List Int × D) → D → List (List Int × D) → Prop} (F : Fd g x i ps) (hn : ps.length = n + 1) (sc : FnScope N ps (defScope (top i)))
    (hbody : ∀ as kvs d kvs', as.length = n → R as kvs d kvs' → SDn ⟨g, k, N, defScope (top i), true, fun _ => false⟩ ps.length (defBody (top i)) (as.map .imm ++ [.dct kvs] ++ List.replicate (N.length - ps.length) .un) (seenR d n kvs')) : CallOk g (k + 1) x (SeenC n R) := by
  refine mk_call F sc (fun δ d δ' ⟨as, kvs, kvs', h1, h2, h3, _⟩ => ⟨by rw [h2, List.length_append, List.length_map, h1, hn]; rfl, by rw [h2, h3]; exact rg_last⟩) fun δ d δ' ⟨as, kvs, kvs', h1, h2, h3, h4⟩ => ?_
  subst h2 h3
  exact sdn_mono (hbody as kvs d kvs' h1 h4) (fun _ ⟨q, e⟩ => ⟨q, fin_last (by rw [h1]; exact e)⟩) (fun _ _ ⟨q, e⟩ => ⟨q, fin_last (by rw [h1]; exact e)⟩) (fun _ q => q) (fun _ q => q)
section
variable {S : Sc} {δ : List Slot}
/-- f(a, b, c, d, x) -/
theorem i_callS {x b : Str} {j : Nat} {R : List D → List (List Int × D) → D → List (List Int × D) → Prop} {a1 a2 a3 a4 : Expr} {p0 p pos : Pos} {Q : D → List Slot → Prop} (c : CallOk S.g j x (SeenC 4 R)) (hj : j ≤ S.k) (hg : S.sc.names.lookup x = some .globalImplicit)
    (hv : Vis S.sc b)
    (h : EvD S a1 δ fun d1 δ1 => EvD S a2 δ1 fun d2 δ2 => EvD S a3 δ2 fun d3 δ3 => EvD S a4 δ3 fun d4 δ4 => ∃ i kvs d kvs' δ5, LookS S.N δ4 b i (.dct kvs) (.dct kvs') δ5 ∧ R [d1, d2, d3, d4] kvs d kvs' ∧ Q d δ5) (hdb : (x == ("__debug__" : Str)) = false := by decide)
    (hb1 : (b == ("__debug__" : Str)) = false := by decide) (hb2 : (b == ("__classdict__" : Str)) = false := by decide)
    (s1 : ∀ env, starEach [a1, a2, a3, a4, .Name b p0] env = (false, eval a1 env) :: starEach [a2, a3, a4, .Name b p0] env := by intro _; rfl) (s2 : ∀ env, starEach [a2, a3, a4, .Name b p0] env = (false, eval a2 env) :: starEach [a3, a4, .Name b p0] env := by intro _; rfl)
    (s3 : ∀ env, starEach [a3, a4, .Name b p0] env = (false, eval a3 env) :: starEach [a4, .Name b p0] env := by intro _; rfl) (s4 : ∀ env, starEach [a4, .Name b p0] env = (false, eval a4 env) :: starEach [.Name b p0] env := by intro _; rfl)
    (hpl : ∀ env, (backTo pos (starEach [a2, a3, a4, .Name b p0] env)).any (·.1) = false := by intro _; rfl) : EvD S (.Call (.Name x p) [a1, a2, a3, a4, .Name b p0] [] pos) δ Q := by
  refine ev_callO c hj hg (ea_cons (ev_mono h fun d1 δ1 q1 => ea_cons (ev_mono q1 fun d2 δ2 q2 => ea_cons (ev_mono q2 fun d3 δ3 q3 => ea_cons (ev_mono q3 fun d4 δ4 ⟨i, kvs, d, kvs', δ5, lk, hR, q⟩ => ?_) s4) s3) s2) s1) hdb s1 hpl
  refine ea_own (hd := hb1) (hcd := hb2) lk.look rfl hv (ea_nil ?_)
  refine ⟨[d1, d2, d3, d4], [], i, .dct kvs, .dct kvs', d, rfl, lk.slot, rfl, rfl, ⟨[d1, d2, d3, d4], kvs, kvs', rfl, rfl, rfl, hR⟩, ?_⟩
  rw [lk.eq]; exact q
/-- f(a, b, c, d, {}) -/
theorem i_callS0 {x : Str} {j : Nat} {R : List D → List (List Int × D) → D → List (List Int × D) → Prop} {a1 a2 a3 a4 : Expr} {p pos dp : Pos} {Q : D → List Slot → Prop} (c : CallOk S.g j x (SeenC 4 R)) (hj : j ≤ S.k) (hg : S.sc.names.lookup x = some .globalImplicit)
    (h : EvD S a1 δ fun d1 δ1 => EvD S a2 δ1 fun d2 δ2 => EvD S a3 δ2 fun d3 δ3 => EvD S a4 δ3 fun d4 δ4 => ∃ d kvs', R [d1, d2, d3, d4] [] d kvs' ∧ Q d δ4) (hdb : (x == ("__debug__" : Str)) = false := by decide)
    (s1 : ∀ env, starEach [a1, a2, a3, a4, .Dict [] [] dp] env = (false, eval a1 env) :: starEach [a2, a3, a4, .Dict [] [] dp] env := by intro _; rfl) (s2 : ∀ env, starEach [a2, a3, a4, .Dict [] [] dp] env = (false, eval a2 env) :: starEach [a3, a4, .Dict [] [] dp] env := by intro _; rfl)
    (s3 : ∀ env, starEach [a3, a4, .Dict [] [] dp] env = (false, eval a3 env) :: starEach [a4, .Dict [] [] dp] env := by intro _; rfl) (s4 : ∀ env, starEach [a4, .Dict [] [] dp] env = (false, eval a4 env) :: starEach [.Dict [] [] dp] env := by intro _; rfl)
    (hpl : ∀ env, (backTo pos (starEach [a2, a3, a4, .Dict [] [] dp] env)).any (·.1) = false := by intro _; rfl) : EvD S (.Call (.Name x p) [a1, a2, a3, a4, .Dict [] [] dp] [] pos) δ Q := by
  intro X ok M ad σ H sm
  obtain ⟨f, fd, ps, h1, h2, h3, h4, h5⟩ := c.ex
  intro pins s I
  have args : TAx X [a1, a2, a3, a4, .Dict [] [] dp] σ H fun vs H' => ∃ v1 v2 v3 v4 q d1 d2 d3 d4 δ4 H4, vs = [v1, v2, v3, v4, .ref q] ∧ H4 q = none ∧ H' = upd H4 q (.dT []) ∧ Stp S.g.K M ad σ δ H δ4 H4 ∧ DaAll S.g.K (mask M H4) [v1, v2, v3, v4] [d1, d2, d3, d4] ∧ ∃ d kvs', R [d1, d2, d3, d4] [] d kvs' ∧ Q d δ4 := by
    refine ta_of (pa_cons pe_x (pa_cons pe_x (pa_cons pe_x (pa_cons pe_x (pa_cons pe_dnewT pa_nil rfl) (s4 _)) (s3 _)) (s2 _)) (s1 _)) ?_
    refine te_mono (h X ok M ad σ H sm) fun v1 H1 ⟨d1, δ1, q1, st1, dv1⟩ => ?_
    refine te_mono (q1 X ok M ad σ H1 st1.sm) fun v2 H2 ⟨d2, δ2, q2, st2, dv2⟩ => ?_
    refine te_mono (q2 X ok M ad σ H2 st2.sm) fun v3 H3 ⟨d3, δ3, q3, st3, dv3⟩ => ?_
    refine te_mono (q3 X ok M ad σ H3 st3.sm) fun v4 H4 ⟨d4, δ4, q4, st4, dv4⟩ => ?_
    intro q hn
    have e12 := st1.sm.same st2.keep
    have e23 := st2.sm.same st3.keep
    have e34 := st3.sm.same st4.keep
    exact ⟨v1, v2, v3, v4, q, d1, d2, d3, d4, δ4, H4, rfl, hn, rfl, ((st1.trans st2).trans st3).trans st4, .cons (dp_mono e34 _ (dp_mono e23 _ (dp_mono e12 _ dv1))) (.cons (dp_mono e34 _ (dp_mono e23 _ dv2)) (.cons (dp_mono e34 _ dv3) (.cons dv4 .nil))), q4⟩
  refine wpAny_Call_Name_kw (ld_glob I (gl_of ok hg) (mg_of' ok h1) ?_ hdb)
  refine PySem.W.callWith_K (h₀ := X.base) I.ok.mod.kin (by rw [ok.K]; exact h2) (thn (args pos pins s I) fun us t1 ⟨vs, H1, I1, r1, v1, v2, v3, v4, q, d1, d2, d3, d4, δ4, H4, evs, hn, eH, st, da, d, kvs', hR, qd⟩ => ⟨I1.kIn, ?_⟩) (s1 _) (hpl _)
  subst evs eH
  have qM : q ∉ M := st.sm.freshM hn
  have em : mask (q :: M) (upd H4 q (.dT [])) = mask M H4 := by
    funext b
    by_cases hb : b ∈ M
    · rw [mask_in (List.mem_cons_of_mem _ hb), mask_in hb]
    · by_cases hd : b = q
      · subst hd
        rw [mask_in List.mem_cons_self, mask_out hb, hn]
      · rw [mask_out (by simp [hd, hb]), mask_out hb, upd_ne hd]
  have ct : SeenC 4 R ([d1, d2, d3, d4].map .imm ++ [.dct []]) d ([d1, d2, d3, d4].map .imm ++ [.dct kvs']) := ⟨[d1, d2, d3, d4], [], kvs', rfl, rfl, rfl, hR⟩
  have own4 : ∀ (m : Nat) t, ([d1, d2, d3, d4].map Slot.imm ++ [Slot.dct []])[m]? = some t → t.own = true → m = 4 := fun m t e w => by
    match m, e with
    | 0, e => cases e; cases w
    | 1, e => cases e; cases w
    | 2, e => cases e; cases w
    | 3, e => cases e; cases w
    | 4, _ => rfl
    | m + 5, e => cases e
  have smc : Sm S.g.K (q :: M) (upd H4 q (.dT [])) [0, 0, 0, 0, q] ([d1, d2, d3, d4].map .imm ++ [.dct []]) ([v1, v2, v3, v4, V.ref q].map some) := by
    refine ⟨rfl, fun m t e => ?_, fun m n t u e1 e2 w1 w2 _ => by rw [own4 m t e1 w1, own4 n u e2 w2], fun b hb => ?_⟩
    · cases da with
      | cons x1 da => cases da with
        | cons x2 da => cases da with
          | cons x3 da => cases da with
            | cons x4 da =>
              match m, e with
              | 0, e => cases e; exact ⟨_, rfl, by rw [em]; exact x1⟩
              | 1, e => cases e; exact ⟨_, rfl, by rw [em]; exact x2⟩
              | 2, e => cases e; exact ⟨_, rfl, by rw [em]; exact x3⟩
              | 3, e => cases e; exact ⟨_, rfl, by rw [em]; exact x4⟩
              | 4, e => cases e; exact ⟨rfl, List.mem_cons_self, [], upd_same, .nil⟩
              | m + 5, e => cases e
    · rcases List.mem_cons.mp hb with z | z
      · subst z; exact ⟨_, upd_same⟩
      · obtain ⟨o, e⟩ := st.sm.tr b z
        exact ⟨o, same_new hn _ _ e⟩
  refine run_fnC ok h4 h3 hj ct (h5 _ _ _ ct) smc (fun v H2 dv st2 => ?_) pins t1 σ us I1 r1
  have se : Same H4 H2 := fun b o e => st2.keep b o (same_new hn _ _ e) fun ⟨m, t, e2, w, e3⟩ => by
    have := own4 m t e2 w
    subst this
    have e4 : q = b := e3
    rw [← e4, hn] at e; cases e
  exact ⟨d, δ4, qd, st.trans (.grow st.sm se), dp_mono (mask_sub fun b hb => List.mem_cons_of_mem _ hb) _ dv⟩
end
end Fb
end
namespace Fb
open PySem PySem.Spec PyProof.Rows L2
local macro_rules | `(tactic| k_extra "lk") => `(tactic| (dsimp only [Sc.blk]; (repeat (first | with_reducible exact Look.here | with_reducible exact LookS.here | with_reducible apply Look.there | with_reducible apply LookS.there)); done))
local macro_rules | `(tactic| k_extra "nm") => `(tactic| (dsimp only [Sc.blk]; decide +kernel))
local macro_rules | `(tactic| k_extra "vs") => `(tactic| (dsimp only [Sc.blk]; first | exact Or.inl (by decide +kernel) | exact Or.inr (.inl (by decide +kernel)) | exact Or.inr (.inr (by decide +kernel))))
local macro_rules | `(tactic| k_extra "lo") => `(tactic| (dsimp only [Sc.blk]; first | exact Or.inl (by decide +kernel) | exact Or.inr (by decide +kernel)))
local macro_rules | `(tactic| k_extra "tp") => `(tactic| first | exact Or.inl rfl | (right; k_extra "nm"))
local macro_rules | `(tactic| k_extra "bn") => `(tactic| exact Wb.no (by assumption) (by decide +kernel))
local macro_rules | `(tactic| k_extra "ln") => `(tactic| first | (simp only [List.length_cons, List.length_nil]; omega) | (simp; omega; done) | (omega; done) | (simp; done))
local macro_rules | `(tactic| k_extra "wk") => `(tactic| ((repeat (first | with_reducible exact Weak.nil | with_reducible apply Weak.same | with_reducible apply Weak.un rfl | apply Weak.same)); done))
local macro_rules | `(tactic| k_extra "sa") => `(tactic| (refine ⟨_, _, (by k_extra "lk"), ?_, ?_⟩; rotate_left; dsimp only))
local macro_rules | `(tactic| k_extra "o") => `(tactic| with_reducible first | refine ⟨_, o_add, ?_⟩ | refine ⟨_, o_sub, ?_⟩ | refine ⟨_, o_lt, ?_⟩ | refine ⟨_, o_le, ?_⟩ | refine ⟨_, o_gt, ?_⟩ | refine ⟨_, o_ge, ?_⟩ | refine ⟨_, o_eqI, ?_⟩ | refine ⟨_, o_neI, ?_⟩ | refine ⟨_, o_eqB, ?_⟩ | refine ⟨_, o_eqS, ?_⟩ | refine ⟨_, o_neS, ?_⟩ | refine ⟨_, o_isB, ?_⟩ | refine ⟨_, o_inT, ?_⟩ | refine ⟨_, o_inL, ?_⟩ | refine ⟨_, o_niT, ?_⟩ | refine ⟨_, o_niL, ?_⟩ | refine ⟨_, o_catT ?_, ?_⟩ | refine ⟨_, o_catL ?_, ?_⟩ | refine ⟨_, o_mul ?_, ?_⟩ | refine ⟨_, o_mod ?_, ?_⟩ | refine ⟨_, o_fdiv ?_, ?_⟩)
local macro_rules | `(tactic| k_extra "c") => `(tactic| with_reducible first | refine ⟨_, c_lenH, ?_⟩ | refine ⟨_, c_lenTI, ?_⟩ | refine ⟨_, c_lenLI, ?_⟩ | refine ⟨_, c_lenT, ?_⟩ | refine ⟨_, c_lenL, ?_⟩ | refine ⟨_, c_lenX, ?_⟩ | refine ⟨_, c_tupL, ?_⟩ | refine ⟨_, c_lstT, ?_⟩ | refine ⟨_, c_int, ?_⟩ | refine ⟨_, c_intB, ?_⟩ | refine ⟨_, c_max2, ?_⟩ | refine ⟨_, c_min2, ?_⟩)
local macro_rules | `(tactic| k_extra "ob") => `(tactic| with_reducible first | refine ⟨_, _, by k_extra "lk", o_inL, ?_⟩ | refine ⟨_, _, by k_extra "lk", o_niL, ?_⟩ | refine ⟨_, _, by k_extra "lk", o_inD ?_ ?_, ?_⟩ | refine ⟨_, _, by k_extra "lk", o_niD ?_ ?_, ?_⟩)
local macro_rules | `(tactic| k_extra "x") => `(tactic| with_reducible first | refine ⟨_, ix_h1, ?_⟩ | refine ⟨_, ix_r1, ?_⟩)
local macro_rules | `(tactic| k_extra "e") => `(tactic| ((with_reducible show EvD _ _ _ _); first | ((with_reducible show EvD _ (Expr.Name _ _) _ _); refine ev_var (by k_extra "lk") (by k_extra "vs") ?_) | ((with_reducible show EvD _ (Expr.Constant (Const.int _) _ _) _ _); refine ev_int ?_) | ((with_reducible show EvD _ (Expr.Constant (Const.str _) _ _) _ _); refine ev_str ?_) | ((with_reducible show EvD _ (Expr.Constant (Const.bool _) _ _) _ _); refine ev_bl ?_) | ((with_reducible show EvD _ (Expr.Constant Const.none _ _) _ _); refine ev_non ?_) | ((with_reducible show EvD _ (Expr.UnaryOp .USub _ _) _ _); refine ev_neg ?_) | ((with_reducible show EvD _ (Expr.UnaryOp .Not _ _) _ _); refine ev_not ?_) | ((with_reducible show EvD _ (Expr.BinOp _ _ _ _) _ _); refine ev_op ?_) | ((with_reducible show EvD _ (Expr.Compare _ [_] _ _) _ _); refine ev_cmp ?_ rfl) | ((with_reducible show EvD _ (Expr.Compare _ [_, _] _ _) _ _); refine ev_chain ?_ (by with_unfolding_all rfl)) | ((with_reducible show EvD _ (Expr.Subscript (Expr.Name _ _) _ _) _ _); refine ev_ixO (by k_extra "lk") (by k_extra "vs") ?_ (by intro _ _; rfl)) | ((with_reducible show EvD _ (Expr.Subscript (Expr.Name _ _) _ _) _ _); refine ev_ixD (by k_extra "lk") (by k_extra "vs") ?_ (by intro _ _; rfl)) | ((with_reducible show EvD _ (Expr.Subscript (Expr.Name _ _) _ _) _ _); refine ev_ixP (by k_extra "lk") (by k_extra "vs") ?_ (by intro _ _; rfl)) | ((with_reducible show EvD _ (Expr.Subscript _ (Expr.Slice none none (some _) _) _) _ _); refine ev_revT ?_) | ((with_reducible show EvD _ (Expr.Subscript _ (Expr.Slice _ _ none _) _) _ _); refine ev_sl ?_) | ((with_reducible show EvD _ (Expr.Subscript _ _ _) _ _); refine ev_ix ?_ (by intro _ _; rfl)) | ((with_reducible show EvD _ (Expr.Tuple _ _ _) _ _); refine i_tup ?_) | ((with_reducible show EvD _ (Expr.List _ _) _ _); refine i_lst ?_) | ((with_reducible show EvD _ (Expr.BoolOp _ [_] _) _ _); refine ev_and1 ?_) | ((with_reducible show EvD _ (Expr.BoolOp _ _ _) _ _); refine ev_and ?_) | ((with_reducible show EvD _ (Expr.Call (Expr.Name "tuple" _) [Expr.Name _ _] _ _) _ _); refine ev_tupO (by k_extra "lk") (by k_extra "vs") (by k_extra "nm") (by k_extra "bn") ?_) | ((with_reducible show EvD _ (Expr.Call (Expr.Name "len" _) [Expr.Name _ _] _ _) _ _); refine ev_lenO (by k_extra "lk") (by k_extra "vs") (by k_extra "nm") (by k_extra "bn") ?_) | ((with_reducible show EvD _ (Expr.Call (Expr.Name "isinstance" _) [_, Expr.Name "tuple" _] _ _) _ _); refine i_isT (by k_extra "nm") (by k_extra "bn") (by k_extra "nm") (by k_extra "bn") ?_) | ((with_reducible show EvD _ (Expr.Call (Expr.Name "isinstance" _) [_, Expr.Name "int" _] _ _) _ _); refine i_isI (by k_extra "nm") (by k_extra "bn") (by k_extra "nm") (by k_extra "bn") ?_) | ((with_reducible show EvD _ (Expr.Call (Expr.Name "isinstance" _) [_, Expr.Name "bool" _] _ _) _ _); refine i_isB (by k_extra "nm") (by k_extra "bn") (by k_extra "nm") (by k_extra "bn") ?_) | ((with_reducible show EvD _ (Expr.Call (Expr.Name "len" _) _ _ _) _ _); refine i_bf (x := "len") (id := "len") (by k_extra "nm") (by k_extra "bn") (by decide +kernel) ?_) | ((with_reducible show EvD _ (Expr.Call (Expr.Name "max" _) _ _ _) _ _); refine i_bf (x := "max") (id := "max") (by k_extra "nm") (by k_extra "bn") (by decide +kernel) ?_) | ((with_reducible show EvD _ (Expr.Call (Expr.Name "min" _) _ _ _) _ _); refine i_bf (x := "min") (id := "min") (by k_extra "nm") (by k_extra "bn") (by decide +kernel) ?_) | ((with_reducible show EvD _ (Expr.Call (Expr.Name "tuple" _) _ _ _) _ _); refine i_bt (x := "tuple") (T := "tuple") (by k_extra "nm") (by k_extra "bn") (by decide +kernel) ?_) | ((with_reducible show EvD _ (Expr.Call (Expr.Name "list" _) _ _ _) _ _); refine i_bt (x := "list") (T := "list") (by k_extra "nm") (by k_extra "bn") (by decide +kernel) ?_) | ((with_reducible show EvD _ (Expr.Call (Expr.Name "int" _) _ _ _) _ _); refine i_bt (x := "int") (T := "int") (by k_extra "nm") (by k_extra "bn") (by decide +kernel) ?_)))
local macro_rules | `(tactic| k_extra "a") => `(tactic| ((with_reducible show EaI _ _ _ _); first | with_reducible refine ai_nil ?_ | ((with_reducible refine ai_cons ?aa ?bb); (case' bb => (intro _; rfl)))))
local macro_rules | `(tactic| k_extra "eo") => `(tactic| ((with_reducible show EoD _ _ _ _); first | ((with_reducible show EoD _ none _ _); refine eo_none ?_) | refine eo_some ?_))
local macro_rules | `(tactic| k_extra "t") => `(tactic| ((with_reducible show EtD _ _ _ _); first | ((with_reducible show EtD _ (Expr.UnaryOp .Not _ _) _ _); refine et_not ?_) | ((with_reducible show EtD _ (Expr.Compare _ [_] [Expr.Name _ _] _) _ _); refine et_cmpO (by k_extra "lk") (by k_extra "vs") ?_ rfl) | ((with_reducible show EtD _ (Expr.Compare _ [_] [Expr.Name _ _] _) _ _); refine et_inD (by k_extra "lk") (by k_extra "vs") ?_ rfl) | ((with_reducible show EtD _ (Expr.Compare _ [_] _ _) _ _); refine et_cmp ?_ rfl) | ((with_reducible show EtD _ (Expr.Compare _ [_, _] _ _) _ _); refine et_chain ?_ (by with_unfolding_all rfl)) | ((with_reducible show EtD _ (Expr.BoolOp _ _ _) _ _); refine et_w ?_) | refine et_val ?_))
local macro_rules | `(tactic| k_extra "w") => `(tactic| ((with_reducible show EwD _ _ _ _); first | ((with_reducible show EwD _ (Expr.BoolOp .And [_] _) _ _); refine ew_and1 ?_) | ((with_reducible show EwD _ (Expr.BoolOp .Or [_] _) _ _); refine ew_or1 ?_) | ((with_reducible show EwD _ (Expr.BoolOp .And _ _) _ _); refine ew_and ?_) | ((with_reducible show EwD _ (Expr.BoolOp .Or _ _) _ _); refine ew_or ?_)))
local macro_rules | `(tactic| k_extra "it") => `(tactic| ((with_reducible show EiD _ _ _ _ _); first | ((with_reducible show EiD _ _ (Expr.Call (Expr.Name "range" _) [_] _ _) _ _); refine ei_rng1 (by k_extra "nm") (by k_extra "bn") ?_) | ((with_reducible show EiD _ _ (Expr.Call (Expr.Name "range" _) [_, _] _ _) _ _); refine ei_rng2 (by k_extra "nm") (by k_extra "bn") ?_) | ((with_reducible show EiD _ _ (Expr.Call (Expr.Name "range" _) [_, _, _] _ _) _ _); refine ei_down (by k_extra "nm") (by k_extra "bn") ?_)))
local macro_rules | `(tactic| k_extra "s") => `(tactic| first | ((with_reducible show SDn _ _ _ _ _); refine sdn_cons ?_) | ((with_reducible show SDs _ [] _ _); refine sds_nil ?_) | ((with_reducible show SDs _ [_] _ _); refine sds_one ?_) | ((with_reducible show SDs _ _ _ _); refine sds_cons ?_) | ((with_reducible show SD _ (Stmt.Assign [Expr.Name _ _] (Expr.List _ _) _) _ _); refine i_newL ?_ (by k_extra "lo") (by k_extra "tp")) | ((with_reducible show SD _ (Stmt.Assign [Expr.Name _ _] _ _) _ _); refine sd_set ?_ (by k_extra "lo") (by k_extra "tp")) | ((with_reducible show SD _ (Stmt.Expr (Expr.Call (Expr.Attribute (Expr.Name _ _) "append" _) _ _ _) _) _ _); refine sd_app (by k_extra "lk") (by k_extra "vs") ?_) | ((with_reducible show SD _ (Stmt.Return _ _) _ _); refine sd_ret ?_) | ((with_reducible show SD _ (Stmt.If _ _ _ _) _ _); refine sd_if ?_))
local macro_rules | `(tactic| k_extra "st") => `(tactic| (refine ⟨_, _, _, (by k_extra "lk"), rfl, ?_⟩; dsimp only))
local macro_rules | `(tactic| k_extra "q") => `(tactic| with_reducible first | refine ⟨_, rfl, ?_⟩ | refine ⟨_, _, rfl, rfl, rfl, ?_⟩ | refine ⟨_, _, rfl, rfl, ?_⟩ | refine ⟨rfl, ?_⟩)
local macro_rules | `(tactic| k_extra "cn") => `(tactic| ((with_reducible first | show Cn.nx _ _ | show Cn.rt _ _ _ | show Cn.ct _ _ | show Cn.bk _ _); dsimp only))
local macro_rules | `(tactic| k_extra "bt") => `(tactic| with_reducible first | refine ⟨fun hb => nb3 hb, fun _ => ?_⟩ | refine ⟨fun _ => ?_, fun hb => nb3 hb⟩ | refine ⟨fun hb => nb4 hb, fun _ => ?_⟩ | refine ⟨fun _ => ?_, fun hb => nb4 hb⟩ | refine ⟨fun hb => nb1 hb, fun _ => ?_⟩ | refine ⟨fun _ => ?_, fun hb => nb1 hb⟩ | refine ⟨fun hb => nb2 hb, fun _ => ?_⟩ | refine ⟨fun _ => ?_, fun hb => nb2 hb⟩)
local macro_rules | `(tactic| k_extra "le") => `(tactic| refine ⟨(by k_extra "ln" : List.length _ ≤ _), ?_⟩)
local macro_rules | `(tactic| k_extra "go1") => `(tactic| first | k_extra "e" | k_extra "a" | k_extra "o" | k_extra "c" | k_extra "x" | k_extra "t" | k_extra "w" | k_extra "s" | k_extra "it" | k_extra "eo" | k_extra "q" | k_extra "le" | k_extra "st" | k_extra "ob" | k_extra "cn" | k_extra "bt" | with_reducible rfl)
local macro_rules | `(tactic| k_extra "go") => `(tactic| repeat k_extra "go1")
section
/-! ### ancestors -/
def rAnc (ds : List D) (d : D) : Prop := ∃ h m, HOk h ∧ 0 ≤ m ∧ m < (h.length : Int) ∧ ds = [hD h, .int m] ∧ d = tI (anc h m)
theorem dn_len {m : Int} {n : Nat} (h0 : 0 ≤ m) (h1 : m < n) (h6 : n ≤ 6) : (m - -1).toNat = (m + 1).toNat ∧ (m + 1).toNat ≤ 6 := by
  constructor
  · congr 1
  · omega
theorem w_ancestors {g : Ga} {k : Nat} (W : Wb g) (F : Fd g "ancestors" 4 ["history", "m"]) : CallOk g (k + 1) "ancestors" (PureC 2 rAnc) := by
  refine mk_pure (N := ["history", "m", "found", "k", "parent"]) F ⟨rfl, rfl, rfl, by decide +kernel, rfl, by decide +kernel, by decide +kernel⟩ ?_
  rintro ds d - ⟨h, m, ho, h0, h1, rfl, rfl⟩
  have h6 := ho.len
  show SDn _ _ _ [.imm (hD h), .imm (.int m), .un, .un, .un] _
  k_extra "go"
  refine sd_for ?_
  k_extra "go"
  refine ⟨⟨by omega, by omega, by omega, by omega⟩, fun i δ => δ = [.imm (hD h), .imm (.int m), .lst ((ancK h m i).map .int), .un, .un], ⟨_, by k_extra "wk", rfl⟩, ?_, ?_⟩
  · rintro i d δ2 hd rfl
    obtain ⟨hi, rfl⟩ := rgD_get hd
    have hl := ancK_len ho (m := m) i
    have hk : m + (i : Nat) * -1 = ((m - i).toNat : Nat) := by omega
    have hk2 : m + (i : Nat) * -1 = m - i := by omega
    have hlt : (m - i).toNat < h.length := by omega
    refine ⟨[.imm (hD h), .imm (.int m), .lst ((ancK h m i).map .int), .imm (.int (m + (i : Nat) * -1)), .un], tgd_name (by k_extra "lk") rfl (by k_extra "lo") (by k_extra "tp"), ?_⟩
    k_extra "go"
    · obtain ⟨p, hp⟩ : ∃ p, h[(m - i).toNat]? = some p := ⟨_, List.getElem?_eq_getElem hlt⟩
      have hpar : parI h (m - i) = p.2 := parI_get (by omega) hp
      have hpl : p.2.length ≤ 6 := ho.par p (List.mem_of_getElem? hp)
      refine ⟨fun hc => ?_, fun hc => ?_⟩
      · k_extra "go"
        refine sd_forg PyData.int (ei_tup ?_)
        k_extra "go"
        refine ⟨_, ix_hk hk hp, ?_⟩
        k_extra "go"
        refine ⟨fun j δ => δ = [.imm (hD h), .imm (.int m), .lst (((p.2.take j).foldl addI (ancK h m i)).map .int), .imm (.int (m + (i : Nat) * -1)), .un], ⟨_, by k_extra "wk", rfl⟩, ?_, ?_⟩
        · rintro j x δ2 hx rfl
          have tk : p.2.take (j + 1) = p.2.take j ++ [x] := by rw [List.take_succ, hx]; rfl
          have hj := (List.getElem?_eq_some_iff.mp hx).1
          have hfl := foldA_len (p.2.take j) (ancK h m i)
          rw [List.length_take] at hfl
          refine ⟨[.imm (hD h), .imm (.int m), .lst (((p.2.take j).foldl addI (ancK h m i)).map .int), .imm (.int (m + (i : Nat) * -1)), .imm (.int x)], tgd_name (by k_extra "lk") rfl (by k_extra "lo") (by k_extra "tp"), ?_⟩
          k_extra "go"
          refine ⟨fun hc2 => ?_, fun hc2 => ?_⟩
          · k_extra "go"
            k_extra "sa"
            · k_extra "go"
              refine ⟨_, ?_, rfl⟩
              rw [tk, List.foldl_append, List.foldl_cons, List.foldl_nil, addI_no (by simpa using hc2), List.map_append]
              k_extra "wk"
            · rw [List.length_map]; omega
          · k_extra "go"
            refine ⟨_, ?_, rfl⟩
            rw [tk, List.foldl_append, List.foldl_cons, List.foldl_nil, addI_yes (by simpa using hc2)]
            k_extra "wk"
        · rintro δ2 rfl
          refine ⟨_, ?_, rfl⟩
          rw [List.take_length, ← hpar, show ancK h m (i + 1) = _ from if_pos (by rw [← hk2]; simpa using hc)]
          k_extra "wk"
      · k_extra "go"
        refine ⟨_, ?_, rfl⟩
        rw [show ancK h m (i + 1) = _ from if_neg (by rw [← hk2]; simpa using hc)]
        k_extra "wk"
  · rintro δ2 rfl
    have hl := ancK_len ho (m := m) (m + 1).toNat
    obtain ⟨q1, q2⟩ := dn_len h0 h1 h6
    rw [rgD_len, q1]
    k_extra "go"
    refine ev_sortedO (ns := ancK h m (m + 1).toNat) (ms := anc h m) (by k_extra "lk") (by k_extra "vs") (by k_extra "nm") (by k_extra "bn") (by omega) (fun zs => sortI_eq) ?_
    k_extra "go"
end
section
/-! ### testable, classes, broken_by, tests -/
def rTst (ds : List D) (d : D) : Prop := ∃ h sk, HOk h ∧ ds = [hD h, tI sk] ∧ d = lI (tst h sk)
theorem w_testable {g : Ga} {k : Nat} (W : Wb g) (F : Fd g "testable" 6 ["history", "skipped"]) : CallOk g (k + 1) "testable" (PureC 2 rTst) := by
  refine mk_pure (N := ["history", "skipped", "m"]) F ⟨rfl, rfl, rfl, by decide +kernel, rfl, by decide +kernel, by decide +kernel⟩ ?_
  rintro ds d - ⟨h, sk, ho, rfl, rfl⟩
  have h6 := ho.len
  show SDn _ _ _ [.imm (hD h), .imm (tI sk), .un] _
  k_extra "go"
  refine ev_lcg PyData.int [("m", 2)] (by k_extra "nm") ?_
  k_extra "go"
  refine ⟨by omega, by omega, upto h.length, by rw [Int.toNat_natCast, rg_upto], by rw [upto_len]; omega, fun m => !decide (m ∈ sk), .int, fun m hm => ⟨_, tgc_name (by k_extra "lk") rfl (by k_extra "nm"), ?_⟩, rfl⟩
  refine eif_one ?_
  k_extra "go"
  intro _
  k_extra "go"
theorem tst_mem {h : Hist} {sk : List Int} {m : Int} (hm : m ∈ tst h sk) : 0 ≤ m ∧ m < (h.length : Int) := upto_mem.mp (List.mem_filter.mp hm).1
def rCls (ds : List D) (d : D) : Prop := ∃ h sk, HOk h ∧ ds = [hD h, tI sk] ∧ d = .tuple ((cls h sk).map tI)
theorem w_classes {g : Ga} {k j1 j2 : Nat} (W : Wb g) (A : CallOk g j1 "ancestors" (PureC 2 rAnc)) (B : CallOk g j2 "testable" (PureC 2 rTst)) (hj1 : j1 ≤ k) (hj2 : j2 ≤ k) (F : Fd g "classes" 7 ["history", "skipped"]) : CallOk g (k + 1) "classes" (PureC 2 rCls) := by
  refine mk_pure (N := ["history", "skipped", "rows", "marks", "found", "c", "mark", "at", "m", "row"]) F ⟨rfl, rfl, rfl, by decide +kernel, rfl, by decide +kernel, by decide +kernel⟩ ?_
  rintro ds d - ⟨h, sk, ho, rfl, rfl⟩
  have h6 := ho.len
  have hl : (tst h sk).length ≤ 6 := Nat.le_trans (List.length_filter_le _ _) (by rw [upto_len]; exact h6)
  show SDn _ _ _ [.imm (hD h), .imm (tI sk), .un, .un, .un, .un, .un, .un, .un, .un] _
  k_extra "s"
  refine sd_setlcm PyData.int [("m", 8)] (by k_extra "nm") rfl (by k_extra "nm") rfl (by k_extra "nm") (iy := 2) rfl ?_
  refine ei_list ?_
  refine i_call B hj2 (by k_extra "nm") ?_
  k_extra "go"
  refine ⟨_, ⟨h, sk, ho, rfl, rfl⟩, ?_⟩
  refine ⟨_, rfl, tst h sk, rfl, by omega, fun m => tI (anc h m), fun m hm => ⟨_, tgc_name (by k_extra "lk") rfl (by k_extra "nm"), ?_⟩, ?_⟩
  · refine i_call A hj1 (by k_extra "nm") ?_
    k_extra "go"
    have hm' := tst_mem hm
    exact ⟨_, ⟨h, m, ho, hm'.1, hm'.2, rfl, rfl⟩, rfl, rfl⟩
  refine ⟨_, _, by k_extra "lk", rfl, ?_⟩
  k_extra "go"
  refine sd_forg PyData.int ?_
  k_extra "go"
  have hT : ∀ i, i ≤ h.length → (grp (mark h sk) (upto i)).length ≤ 6 := fun i hi => Nat.le_trans (grp_len _ _) (by rw [upto_len]; omega)
  refine ⟨by omega, by omega, upto h.length, by rw [Int.toNat_natCast, rg_upto], fun i δ => δ = [.imm (hD h), .imm (tI sk), .imm (.list ((tst h sk).map fun m => tI (anc h m))), .lst (((grp (mark h sk) (upto i)).map (·.1)).map fun b => lB b), .lst (((grp (mark h sk) (upto i)).map (·.2)).map fun l => tI l), .un, .un, .un, .un, .un], ⟨_, by k_extra "wk", rfl⟩, ?_, ?_⟩
  · rintro i x δ2 hx rfl
    obtain ⟨hi, rfl⟩ := upto_get hx
    have hT1 := hT i (by omega)
    have hsn : grp (mark h sk) (upto (i + 1)) = addC (mark h sk i) i (grp (mark h sk) (upto i)) := by rw [upto_succ, grp_snoc]
    generalize hg : grp (mark h sk) (upto i) = T at *
    refine ⟨[.imm (hD h), .imm (tI sk), .imm (.list ((tst h sk).map fun m => tI (anc h m))), .lst ((T.map (·.1)).map fun b => lB b), .lst ((T.map (·.2)).map fun l => tI l), .imm (.int i), .un, .un, .un, .un], tgd_name (by k_extra "lk") rfl (by k_extra "lo") (by k_extra "tp"), ?_⟩
    k_extra "s"
    refine sd_setlcm (fun m => tI (anc h m)) [("row", 9)] (by k_extra "nm") rfl (by k_extra "nm") rfl (by k_extra "nm") (iy := 6) rfl ?_
    refine ei_list ?_
    k_extra "go"
    refine ⟨fun m => .bool (brk h i m), fun m hm => ⟨_, tgc_name (by k_extra "lk") rfl (by k_extra "nm"), ?_⟩, ?_⟩
    · k_extra "go"
    have em : (tst h sk).map (fun m => PyData.bool (brk h i m)) = (mark h sk i).map .bool := by unfold mark; rw [List.map_map]; rfl
    rw [em]
    refine ⟨_, _, by k_extra "lk", rfl, ?_⟩
    k_extra "go"
    · exact shd_lB.shaped (by omega)
    · exact (shd_lst (shd_map (fun b => shd_lB) (T.map (·.1)))).shaped (by omega)
    refine ⟨fun hc => ?_, fun hc => ?_⟩
    · k_extra "go"
      have hc' : mark h sk i ∈ T.map (·.1) := (any_eqv (c := fun b => lB b) eqv_lB).mp hc
      obtain ⟨j, l, hj, hlow, hset⟩ := addC_at (c := (i : Int)) hc'
      have hjl := (List.getElem?_eq_some_iff.mp hj).1
      have hll : l.length ≤ 6 := by
        have := (grp_mem (mark h sk) (upto i) (mark h sk i, l) (by rw [hg]; exact List.mem_of_getElem? hj)).2.1
        rw [upto_len] at this
        have e : ((mark h sk i, l) : List Bool × List Int).2.length = l.length := rfl
        omega
      refine ev_indexO (by k_extra "lk") (by k_extra "vs") ?_
      k_extra "go"
      refine ⟨_, j, lB (mark h sk i), by k_extra "lk", (shd_lst (shd_map (fun b => shd_lB) (T.map (·.1)))).shaped (by omega), shd_lB.shaped (by omega), by rw [List.getElem?_map, List.getElem?_map, hj]; rfl, (eqv_lB _ _).mpr rfl, fun m z hm hz => ?_, ?_⟩
      · rw [List.getElem?_map, List.getElem?_map] at hz
        cases e : T[m]? with
        | none => rw [e] at hz; cases hz
        | some p =>
          rw [e] at hz
          cases hz
          have := hlow m hm p e
          rw [← Bool.not_eq_true, eqv_lB]
          exact this
      k_extra "go"
      refine sd_setO ?_ (by k_extra "vs")
      k_extra "go"
      refine ⟨_, _, tI l, rfl, by k_extra "lk", atI_some rfl (by rw [List.getElem?_map, List.getElem?_map, hj]; rfl), ?_⟩
      k_extra "go"
      · rw [sizeLine_eq, List.length_map]; simp only [List.length_singleton]; omega
      refine ⟨_, _, by k_extra "lk", ?_⟩
      k_extra "go"
      refine ⟨_, j, _, _, rfl, by k_extra "lk", ixN_nat rfl (by rw [List.length_map, List.length_map]; exact hjl), ?_⟩
      k_extra "go"
      refine ⟨_, ?_, rfl⟩
      rw [hsn, addC_keys_in hc', hset, List.map_set, List.map_set, show tI (l ++ [(i : Int)]) = PyData.tuple (l.map .int ++ [.int i]) by simp [tI]]
      k_extra "wk"
    · have hc' : mark h sk i ∉ T.map (·.1) := any_eqvN (c := fun b => lB b) eqv_lB hc
      k_extra "go"
      k_extra "sa"
      · k_extra "go"
        k_extra "sa"
        · k_extra "go"
          refine ⟨_, ?_, rfl⟩
          rw [hsn, addC_out hc', List.map_append, List.map_append, List.map_append, List.map_append]
          k_extra "wk"
        · rw [List.length_map, List.length_map]; omega
      · rw [List.length_map, List.length_map]; omega
  · rintro δ2 rfl
    rw [upto_len]
    k_extra "go"
    rfl
def rBby (ds : List D) (d : D) : Prop := ∃ h cs m, HOk h ∧ 0 ≤ m ∧ m < (h.length : Int) ∧ cs.length ≤ 6 ∧ (∀ l ∈ cs, l ≠ []) ∧ ds = [hD h, .tuple (cs.map tI), .int m] ∧ d = lI (bby h cs m)
theorem headD_get {l : List Int} (h : l ≠ []) : l[0]? = some (l.headD 0) := by
  cases l with
  | nil => exact absurd rfl h
  | cons a l => rfl
theorem w_broken_by {g : Ga} {k j1 : Nat} (W : Wb g) (A : CallOk g j1 "ancestors" (PureC 2 rAnc)) (hj1 : j1 ≤ k) (F : Fd g "broken_by" 8 ["history", "found", "m"]) : CallOk g (k + 1) "broken_by" (PureC 3 rBby) := by
  refine mk_pure (N := ["history", "found", "m", "row", "k"]) F ⟨rfl, rfl, rfl, by decide +kernel, rfl, by decide +kernel, by decide +kernel⟩ ?_
  rintro ds d - ⟨h, cs, m, ho, m0, m1, hl, hne, rfl, rfl⟩
  have h6 := ho.len
  show SDn _ _ _ [.imm (hD h), .imm (.tuple (cs.map tI)), .imm (.int m), .un, .un] _
  k_extra "s"
  k_extra "s"
  refine i_call A hj1 (by k_extra "nm") ?_
  k_extra "go"
  refine ⟨_, ⟨h, m, ho, m0, m1, rfl, rfl⟩, ?_⟩
  k_extra "go"
  refine ev_lcg PyData.int [("k", 4)] (by k_extra "nm") ?_
  k_extra "go"
  refine ⟨by omega, by simp only [List.length_map]; omega, upto cs.length, by rw [Int.toNat_natCast, List.length_map, rg_upto], by rw [upto_len]; omega, fun k => brk h ((cs.getD k.toNat []).headD 0) m, .int, fun x hx => ⟨_, tgc_name (by k_extra "lk") rfl (by k_extra "nm"), ?_⟩, ?_⟩
  · obtain ⟨x0, x1⟩ := upto_mem.mp hx
    have hxl : x.toNat < cs.length := by omega
    have e : cs.getD x.toNat [] = cs[x.toNat] := by rw [List.getD_eq_getElem?_getD, List.getElem?_eq_getElem hxl]; rfl
    refine eif_one ?_
    k_extra "go"
    refine ⟨_, ix_T (atI_some (j := x.toNat) (by omega) (by rw [List.getElem?_map, List.getElem?_eq_getElem hxl]; rfl)), ?_⟩
    k_extra "go"
    refine ⟨_, ix_T (atI_some (j := 0) rfl (by rw [List.getElem?_map, headD_get (hne _ (List.getElem_mem hxl))]; rfl)), ?_⟩
    k_extra "go"
    refine ⟨by show _ = brk h ((cs.getD x.toNat []).headD 0) m; rw [e]; rfl, ?_⟩
    k_extra "go"
    intro _
    k_extra "go"
  · rfl
end
section
/-! _law_cell, _law_draw, _law_pick, _law_above, _law_breaks -/
def rCell (ds : List D) (d : D) : Prop := ∃ (ns : List Int) (k : Nat), ds = [scrD ns, .int k] ∧ d = .int (ns.getD k 0)
theorem w_cell {g : Ga} {k : Nat} (W : Wb g) (F : Fd g "_law_cell" 28 ["_law_script", "_law_k"]) : CallOk g (k + 1) "_law_cell" (PureC 2 rCell) := by
  refine mk_pure (N := ["_law_script", "_law_k"]) F ⟨rfl, rfl, rfl, by decide +kernel, rfl, by decide +kernel, by decide +kernel⟩ ?_
  rintro ds d - ⟨ns, j, rfl, rfl⟩
  show SDn _ _ _ [.imm (scrD ns), .imm (.int j)] _
  k_extra "go"
  refine ⟨fun h1 => ?_, fun h1 => ?_⟩
  · have hj : j < ns.length := by have := of_decide_eq_true h1; omega
    have hg : ns[j]? = some ns[j] := List.getElem?_eq_getElem hj
    k_extra "go"
    refine ⟨_, ix_X (atI_some rfl hg), ?_⟩
    k_extra "go"
    show _ = _
    rw [List.getD_eq_getElem?_getD, hg]; rfl
  · have hj : ¬ j < ns.length := by have := of_decide_eq_false h1; omega
    k_extra "go"
    show _ = _
    rw [List.getD_eq_getElem?_getD, List.getElem?_eq_none (by omega)]; rfl
def rDraw (ds : List Int) (a : Nat) (as : List D) (d : D) (a' : Nat) : Prop := ∃ m, 0 < m ∧ as = [.int m] ∧ d = .int (drw ds a m) ∧ a' = a + 1
theorem w_draw {g : Ga} {k : Nat} (W : Wb g) (F : Fd g "_law_draw" 30 ["_law_box", "_law_many"]) : CallOk g (k + 1) "_law_draw" (BoxC 1 rDraw) := by
  refine mk_box (N := ["_law_box", "_law_many", "_law_at"]) F rfl ⟨rfl, rfl, rfl, by decide +kernel, rfl, by decide +kernel, by decide +kernel⟩ ?_
  rintro ds a as d a' - ⟨m, hm, rfl, rfl, rfl⟩
  show SDn _ _ _ [bxS ds a, .imm (.int m), .un] _
  k_extra "go"
  refine ⟨_, _, _, rfl, by k_extra "lk", rfl, ?_⟩
  k_extra "go"
  refine sd_setO ?_ (by k_extra "vs")
  k_extra "go"
  refine ⟨_, _, by k_extra "lk", ?_⟩
  k_extra "go"
  refine ⟨_, 1, _, _, rfl, by k_extra "lk", by rfl, ?_⟩
  k_extra "go"
  refine ⟨_, _, _, rfl, by k_extra "lk", rfl, ?_⟩
  k_extra "go"
  refine ⟨fun h1 => ?_, fun h1 => ?_⟩
  · have hj : a < ds.length := by have := of_decide_eq_true h1; omega
    have hg : ds[a]? = some ds[a] := List.getElem?_eq_getElem hj
    k_extra "go"
    refine ⟨_, _, _, rfl, by k_extra "lk", rfl, ?_⟩
    k_extra "go"
    refine ⟨.int ds[a], ix_L (atI_some rfl (by rw [List.getElem?_map, hg]; rfl)), ?_⟩
    k_extra "go"
    refine ⟨?_, _, rfl⟩
    unfold drw
    rw [if_pos hj, List.getD_eq_getElem?_getD, hg]; rfl
    exact hm
  · have hj : ¬ a < ds.length := by have := of_decide_eq_false h1; omega
    k_extra "go"
    refine ⟨?_, _, rfl⟩
    unfold drw
    rw [if_neg hj]
def pk (xs : List D) (ds : List Int) (a : Nat) : D := xs.getD (drw ds a 900 % (xs.length : Int)).toNat .none
def rPick (ds : List Int) (a : Nat) (as : List D) (d : D) (a' : Nat) : Prop := ∃ xs, xs ≠ [] ∧ as = [.list xs] ∧ d = pk xs ds a ∧ a' = a + 1
theorem pk_get {xs : List D} {ds : List Int} {a : Nat} (h : xs ≠ []) : (drw ds a 900 % (xs.length : Int)).toNat < xs.length ∧ 0 ≤ drw ds a 900 % (xs.length : Int) := by
  have hl : 0 < xs.length := List.length_pos_iff.mpr h
  have h1 := Int.emod_nonneg (drw ds a 900) (b := (xs.length : Int)) (by omega)
  have h2 := Int.emod_lt_of_pos (drw ds a 900) (b := (xs.length : Int)) (by omega)
  omega
theorem w_pick {g : Ga} {k j1 : Nat} (W : Wb g) (A : CallOk g j1 "_law_draw" (BoxC 1 rDraw)) (hj1 : j1 ≤ k) (F : Fd g "_law_pick" 31 ["_law_box", "_law_things"]) : CallOk g (k + 1) "_law_pick" (BoxC 1 rPick) := by
  refine mk_box (N := ["_law_box", "_law_things"]) F rfl ⟨rfl, rfl, rfl, by decide +kernel, rfl, by decide +kernel, by decide +kernel⟩ ?_
  rintro ds a as d a' - ⟨xs, hx, rfl, rfl, rfl⟩
  obtain ⟨p1, p2⟩ := pk_get (ds := ds) (a := a) hx
  show SDn _ _ _ [bxS ds a, .imm (.list xs)] _
  k_extra "go"
  refine i_callB A hj1 (by k_extra "nm") (by k_extra "lk") rfl (by k_extra "vs") ?_
  k_extra "go"
  refine ⟨_, _, _, _, _, by k_extra "lk", ⟨900, by omega, rfl, rfl, rfl⟩, ?_⟩
  k_extra "go"
  · have hl : 0 < xs.length := List.length_pos_iff.mpr hx
    omega
  refine ⟨_, ix_L (atI_some (j := (drw ds a 900 % (xs.length : Int)).toNat) (by omega) (List.getElem?_eq_getElem p1)), ?_⟩
  k_extra "go"
  refine ⟨?_, _, rfl⟩
  unfold pk
  rw [List.getD_eq_getElem?_getD, List.getElem?_eq_getElem p1]; rfl
def rAb (ds : List D) (d : D) : Prop := ∃ h m, HOk h ∧ 0 ≤ m ∧ m < (h.length : Int) ∧ ds = [hD h, .int m] ∧ d = lI (brkL h m (m + 1).toNat)
theorem w_above {g : Ga} {k : Nat} (W : Wb g) (F : Fd g "_law_above" 34 ["_law_history_here", "_law_make"]) : CallOk g (k + 1) "_law_above" (PureC 2 rAb) := by
  refine mk_pure (N := ["_law_history_here", "_law_make", "_law_found", "_law_k", "_law_parent"]) F ⟨rfl, rfl, rfl, by decide +kernel, rfl, by decide +kernel, by decide +kernel⟩ ?_
  rintro ds d - ⟨h, m, ho, h0, h1, rfl, rfl⟩
  have h6 := ho.len
  show SDn _ _ _ [.imm (hD h), .imm (.int m), .un, .un, .un] _
  k_extra "s"
  refine sd_set ?_ (by k_extra "lo") (by k_extra "tp")
  k_extra "go"
  refine sd_for ?_
  k_extra "go"
  refine ⟨⟨by omega, by omega, by omega, by omega⟩, fun i δ => δ = [.imm (hD h), .imm (.int m), .imm (lI (brkL h m i)), .un, .un], ⟨_, by k_extra "wk", rfl⟩, ?_, ?_⟩
  · rintro i d δ2 hd rfl
    obtain ⟨hi, rfl⟩ := rgD_get hd
    have hl := brkL_len ho (m := m) i
    have hk : m + (i : Nat) * -1 = ((m - i).toNat : Nat) := by omega
    have hk2 : m + (i : Nat) * -1 = m - i := by omega
    have hlt : (m - i).toNat < h.length := by omega
    refine ⟨[.imm (hD h), .imm (.int m), .imm (lI (brkL h m i)), .imm (.int (m + (i : Nat) * -1)), .un], tgd_name (by k_extra "lk") rfl (by k_extra "lo") (by k_extra "tp"), ?_⟩
    k_extra "go"
    obtain ⟨p, hp⟩ : ∃ p, h[(m - i).toNat]? = some p := ⟨_, List.getElem?_eq_getElem hlt⟩
    have hpar : parI h (m - i) = p.2 := parI_get (by omega) hp
    have hpl : p.2.length ≤ 6 := ho.par p (List.mem_of_getElem? hp)
    refine ⟨fun hc => ?_, fun hc => ?_⟩
    · have hf := List.length_filter_le (fun x => !decide (x ∈ brkL h m i)) p.2
      k_extra "go"
      refine ev_lcg PyData.int [("_law_parent", 4)] (by k_extra "nm") (ei_tup ?_)
      k_extra "go"
      refine ⟨_, ix_hk hk hp, ?_⟩
      k_extra "go"
      refine ⟨fun x => !decide (x ∈ brkL h m i), .int, fun x hx => ⟨_, tgc_name (by k_extra "lk") rfl (by k_extra "nm"), ?_⟩, ?_⟩
      · refine eif_one ?_
        k_extra "go"
        intro _
        k_extra "go"
      k_extra "go"
      · rw [sizeLine_eq, List.length_map, List.length_map]; omega
      k_extra "go"
      refine ⟨_, ?_, rfl⟩
      rw [show brkL h m (i + 1) = _ from if_pos (by rw [← hk2]; exact of_decide_eq_true hc), hpar, ← List.map_append]
      k_extra "wk"
    · k_extra "go"
      refine ⟨_, ?_, rfl⟩
      rw [show brkL h m (i + 1) = _ from if_neg (by rw [← hk2]; exact of_decide_eq_false hc)]
      k_extra "wk"
  · rintro δ2 rfl
    obtain ⟨q1, q2⟩ := dn_len h0 h1 h6
    rw [rgD_len, q1]
    k_extra "go"
    all_goals rfl
def rBrk (ds : List D) (d : D) : Prop := ∃ h c m, HOk h ∧ 0 ≤ m ∧ m < (h.length : Int) ∧ ds = [hD h, .int c, .int m] ∧ d = .bool (brk h c m)
theorem w_breaks {g : Ga} {k j1 : Nat} (W : Wb g) (A : CallOk g j1 "_law_above" (PureC 2 rAb)) (hj1 : j1 ≤ k) (F : Fd g "_law_breaks" 35 ["_law_history_here", "_law_candidate", "_law_make"]) : CallOk g (k + 1) "_law_breaks" (PureC 3 rBrk) := by
  refine mk_pure (N := ["_law_history_here", "_law_candidate", "_law_make"]) F ⟨rfl, rfl, rfl, by decide +kernel, rfl, by decide +kernel, by decide +kernel⟩ ?_
  rintro ds d - ⟨h, c, m, ho, h0, h1, rfl, rfl⟩
  show SDn _ _ _ [.imm (hD h), .imm (.int c), .imm (.int m)] _
  k_extra "go"
  refine i_call A hj1 (by k_extra "nm") ?_
  k_extra "go"
  refine ⟨_, ⟨h, m, ho, h0, h1, rfl, rfl⟩, ?_⟩
  k_extra "go"
  rw [← brl_brk]; rfl
end
section
set_option autoImplicit false
/-! _law_round_makes -/
def fitL (n : Nat) (sk : List Int) : List Int := (upto n).filter fun m => !decide (m ∈ sk)
def pkI (xs : List Int) (ds : List Int) (a : Nat) : Int := xs.getD (drw ds a 900 % (xs.length : Int)).toNat 0
def rmK (ds : List Int) (a : Nat) (fits : List Int) : Nat → List Int
  | 0 => []
  | i + 1 => addI (rmK ds a fits i) (pkI fits ds (a + i))
theorem rmK_len {ds : List Int} {a : Nat} {fits : List Int} : ∀ i, (rmK ds a fits i).length ≤ i
  | 0 => by simp [rmK]
  | i + 1 => by
    have := rmK_len (ds := ds) (a := a) (fits := fits) i
    unfold rmK addI
    split
    · omega
    · simp only [List.length_append, List.length_singleton]; omega
theorem pk_pkI {xs : List Int} {ds : List Int} {a : Nat} (h : xs ≠ []) : pk (xs.map .int) ds a = .int (pkI xs ds a) := by
  obtain ⟨p1, p2⟩ := pk_get (xs := xs.map PyData.int) (ds := ds) (a := a) (by simpa using h)
  unfold pk pkI
  rw [List.length_map] at p1 ⊢
  rw [List.getD_eq_getElem?_getD, List.getD_eq_getElem?_getD, List.getElem?_map, List.getElem?_eq_getElem p1]; rfl
def rmL (ds : List Int) (a : Nat) (n : Nat) (sk : List Int) (w : Nat) : List Int × Nat :=
  if drw ds a 10 < 6 ∧ fitL n sk ≠ [] then (sortI (rmK ds (a + 1) (fitL n sk) w), a + 1 + w)
  else if drw ds a 10 = 6 ∧ fitL n sk ≠ [] then ((fitL n sk).take (w + 1), a + 1)
  else if drw ds a 10 = 7 then (upto (min n w), a + 1)
  else if drw ds a 10 = 8 then ([drw ds (a + 1) n, drw ds (a + 2) n], a + 3)
  else ([drw ds (a + 1) n], a + 2)
def rRm (ds : List Int) (a : Nat) (as : List D) (d : D) (a' : Nat) : Prop := ∃ h sk w, HOk h ∧ 0 < h.length ∧ w ≤ 3 ∧ as = [hD h, tI sk, .int (w : Nat)] ∧ d = tI (rmL ds a h.length sk w).1 ∧ a' = (rmL ds a h.length sk w).2
theorem w_round_makes {g : Ga} {k j1 j2 : Nat} (W : Wb g) (A : CallOk g j1 "_law_draw" (BoxC 1 rDraw)) (B : CallOk g j2 "_law_pick" (BoxC 1 rPick)) (hj1 : j1 ≤ k) (hj2 : j2 ≤ k) (F : Fd g "_law_round_makes" 43 ["_law_box", "_law_history_here", "_law_skipped", "_law_w"]) : CallOk g (k + 1) "_law_round_makes" (BoxC 3 rRm) := by
  refine mk_box (N := ["_law_box", "_law_history_here", "_law_skipped", "_law_w", "_law_many", "_law_fits", "_law_kind", "_law_found", "_law_turn", "_law_make"]) F rfl ⟨rfl, rfl, rfl, by decide +kernel, rfl, by decide +kernel, by decide +kernel⟩ ?_
  rintro ds a as d a' - ⟨h, sk, w, ho, h0, hw, rfl, rfl, rfl⟩
  have h6 := ho.len
  show SDn _ _ _ [bxS ds a, .imm (hD h), .imm (tI sk), .imm (.int w), .un, .un, .un, .un, .un, .un] _
  k_extra "go"
  have hfl := List.length_filter_le (fun m => !decide (m ∈ sk)) (upto h.length)
  rw [upto_len] at hfl
  refine sd_setlcg PyData.int [("_law_make", 9)] (by k_extra "nm") rfl (by k_extra "nm") (by rfl) (by k_extra "nm") (iy := 5) rfl ?_
  k_extra "go"
  refine ⟨by omega, by omega, upto h.length, by rw [Int.toNat_natCast, rg_upto], by rw [upto_len]; omega, fun m => !decide (m ∈ sk), PyData.int, fun x hx => ⟨_, tgc_name (by k_extra "lk") rfl (by k_extra "nm"), ?_⟩, ?_⟩
  · refine eif_one ?_
    k_extra "go"
    intro _
    k_extra "go"
  refine ⟨_, _, by k_extra "lk", rfl, ?_⟩
  dsimp only
  change SDn _ _ _ [bxS ds a, .imm (hD h), .imm (tI sk), .imm (.int w), .imm (.int h.length), .imm (lI (fitL h.length sk)), .un, .un, .un, .un] _
  have hfl' : (fitL h.length sk).length ≤ h.length := hfl
  have hfm : fitL h.length sk = fitL h.length sk := rfl
  unfold rmL
  generalize fitL h.length sk = fits at *
  k_extra "go"
  refine i_callB A hj1 (by k_extra "nm") (by k_extra "lk") rfl (by k_extra "vs") ?_
  k_extra "go"
  refine ⟨_, _, _, _, _, by k_extra "lk", ⟨10, by omega, rfl, rfl, rfl⟩, ?_⟩
  have ef : PyData.eqv (lI fits) (.list []) = decide (fits = []) := by
    rw [Bool.eq_iff_iff, decide_eq_true_eq]
    exact eqv_lI fits []
  k_extra "st"
  generalize hK : drw ds a 10 = kd
  refine sdn_cut (fun δ1 => δ1 = [bxS ds (a + 1), .imm (hD h), .imm (tI sk), .imm (.int w), .imm (.int h.length), .imm (lI fits), .imm (.int kd), .un, .un, .un] ∧ ¬ (kd < 6 ∧ fits ≠ [])) ?_ ?_
  · k_extra "go"
    refine ⟨fun h1 => ?_, fun h1 => ?_⟩
    · have h1' := of_decide_eq_true h1
      k_extra "go"
      refine ⟨_, o_ne (shd_lI.shaped (by omega)) (shd_nil_L.shaped (by omega)), ?_⟩
      rw [ef]
      refine ⟨fun h2 => ?_, fun h2 => ?_⟩
      · have hf : fits ≠ [] := by simpa using h2
        rw [if_pos ⟨h1', hf⟩]
        k_extra "go"
        refine sd_forg PyData.int ?_
        k_extra "go"
        refine ⟨by omega, by omega, upto w, by rw [Int.toNat_natCast, rg_upto], fun i δ => δ = [bxS ds (a + 1 + i), .imm (hD h), .imm (tI sk), .imm (.int w), .imm (.int h.length), .imm (lI fits), .imm (.int kd), .lst ((rmK ds (a + 1) fits i).map .int), .un, .un], ⟨_, by k_extra "wk", rfl⟩, ?_, ?_⟩
        · rintro i x δ2 hx rfl
          obtain ⟨hi, rfl⟩ := upto_get hx
          have hrl := rmK_len (ds := ds) (a := a + 1) (fits := fits) i
          refine ⟨[bxS ds (a + 1 + i), .imm (hD h), .imm (tI sk), .imm (.int w), .imm (.int h.length), .imm (lI fits), .imm (.int kd), .lst ((rmK ds (a + 1) fits i).map .int), .imm (.int i), .un], tgd_name (by k_extra "lk") rfl (by k_extra "lo") (by k_extra "tp"), ?_⟩
          k_extra "go"
          refine i_callB B hj2 (by k_extra "nm") (by k_extra "lk") rfl (by k_extra "vs") ?_
          k_extra "go"
          refine ⟨_, _, _, _, _, by k_extra "lk", ⟨fits.map .int, by simpa using hf, rfl, (pk_pkI hf).symm, rfl⟩, ?_⟩
          k_extra "go"
          refine ⟨fun h3 => ?_, fun h3 => ?_⟩
          · have e : rmK ds (a + 1) fits (i + 1) = rmK ds (a + 1) fits i ++ [pkI fits ds (a + 1 + i)] := if_neg (by simpa using h3)
            k_extra "go"
            k_extra "sa"
            · k_extra "go"
              refine ⟨_, ?_, rfl⟩
              rw [e, List.map_append]
              k_extra "wk"
            · rw [List.length_map]; omega
          · have e : rmK ds (a + 1) fits (i + 1) = rmK ds (a + 1) fits i := if_pos (by simpa using h3)
            k_extra "go"
            refine ⟨_, ?_, rfl⟩
            rw [e]
            k_extra "wk"
        · rintro δ2 rfl
          rw [upto_len]
          have hrl := rmK_len (ds := ds) (a := a + 1) (fits := fits) w
          k_extra "go"
          refine ev_sortedO (ns := rmK ds (a + 1) fits w) (ms := sortI (rmK ds (a + 1) fits w)) (by k_extra "lk") (by k_extra "vs") (by k_extra "nm") (by k_extra "bn") (by omega) (fun zs => sortI_eq) ?_
          k_extra "go"
          exact ⟨_, rfl⟩
      · have hf : fits = [] := by simpa using h2
        k_extra "go"
        exact (fun z => z.2 hf)
    · have h1' := of_decide_eq_false h1
      k_extra "go"
      exact (fun z => h1' z.1)
  rintro δ1 ⟨rfl, n1⟩
  rw [if_neg n1]
  refine sdn_cut (fun δ1 => δ1 = [bxS ds (a + 1), .imm (hD h), .imm (tI sk), .imm (.int w), .imm (.int h.length), .imm (lI fits), .imm (.int kd), .un, .un, .un] ∧ ¬ (kd = 6 ∧ fits ≠ [])) ?_ ?_
  · k_extra "go"
    refine ⟨fun h3 => ?_, fun h3 => ?_⟩
    · have h3' : kd = 6 := by simpa using h3
      k_extra "go"
      refine ⟨_, o_ne (shd_lI.shaped (by omega)) (shd_nil_L.shaped (by omega)), ?_⟩
      rw [ef]
      refine ⟨fun h2 => ?_, fun h2 => ?_⟩
      · have hf : fits ≠ [] := by simpa using h2
        rw [if_pos ⟨h3', hf⟩]
        k_extra "go"
        refine ⟨_, sl_L rfl, ?_⟩
        k_extra "go"
        refine ⟨?_, _, rfl⟩
        have e : cutD (fits.map PyData.int) none (some ((w : Int) + 1)) = (fits.take (w + 1)).map .int := by
          rw [List.map_take]
          exact cut_to (by omega)
        rw [e]
      · have hf : fits = [] := by simpa using h2
        k_extra "go"
        exact (fun z => z.2 hf)
    · have h3' : ¬ kd = 6 := by simpa using h3
      k_extra "go"
      exact (fun z => h3' z.1)
  rintro δ1 ⟨rfl, n2⟩
  rw [if_neg n2]
  refine sdn_cut (fun δ1 => δ1 = [bxS ds (a + 1), .imm (hD h), .imm (tI sk), .imm (.int w), .imm (.int h.length), .imm (lI fits), .imm (.int kd), .un, .un, .un] ∧ ¬ (kd = 7)) ?_ ?_
  · k_extra "go"
    refine ⟨fun h7 => ?_, fun h7 => ?_⟩
    · have h7' : kd = 7 := by simpa using h7
      rw [if_pos h7']
      k_extra "s"
      k_extra "s"
      refine i_tupR (by k_extra "nm") (by k_extra "bn") (by k_extra "nm") (by k_extra "bn") ?_
      k_extra "go"
      have em : (if (w : Int) < (h.length : Int) then (w : Int) else (h.length : Int)).toNat = min h.length w := by split <;> omega
      refine ⟨by split <;> omega, by split <;> omega, ?_, _, rfl⟩
      rw [em]
    · have h7' : ¬ kd = 7 := by simpa using h7
      k_extra "go"
      exact h7'
  rintro δ1 ⟨rfl, n3⟩
  rw [if_neg n3]
  k_extra "go"
  refine ⟨fun h8 => ?_, fun h8 => ?_⟩
  · have h8' : kd = 8 := by simpa using h8
    rw [if_pos h8']
    k_extra "go"
    refine i_callB A hj1 (by k_extra "nm") (by k_extra "lk") rfl (by k_extra "vs") ?_
    k_extra "go"
    refine ⟨_, _, _, _, _, by k_extra "lk", ⟨h.length, by omega, rfl, rfl, rfl⟩, ?_⟩
    k_extra "go"
    refine i_callB A hj1 (by k_extra "nm") (by k_extra "lk") rfl (by k_extra "vs") ?_
    k_extra "go"
    refine ⟨_, _, _, _, _, by k_extra "lk", ⟨h.length, by omega, rfl, rfl, rfl⟩, ?_⟩
    k_extra "go"
    exact ⟨_, rfl⟩
  · have h8' : ¬ kd = 8 := by simpa using h8
    rw [if_neg h8']
    k_extra "go"
    refine i_callB A hj1 (by k_extra "nm") (by k_extra "lk") rfl (by k_extra "vs") ?_
    k_extra "go"
    refine ⟨_, _, _, _, _, by k_extra "lk", ⟨h.length, by omega, rfl, rfl, rfl⟩, ?_⟩
    k_extra "go"
    exact ⟨_, rfl⟩
end
section
set_option autoImplicit false
/-! ### plans that are looked at -/
def GD (d : D) : Prop := ∀ r, PD r d
theorem gd_of {d : D} (b : PDb d) (h : ∀ xs rows, d = .tuple xs → xs[2]? = some (.tuple rows) → rows.length ≤ 100 ∧ ∀ row ∈ rows, RowB row ∧ ∀ rs q, row = .tuple rs → rs[1]? = some q → GD q) : GD d := fun r => by
  have base : PDb d ∧ ∀ xs rows, d = .tuple xs → xs[2]? = some (.tuple rows) → rows.length ≤ 100 ∧ ∀ row ∈ rows, RowB row := ⟨b, fun xs rows e1 e2 => ⟨(h xs rows e1 e2).1, fun row hr => ((h xs rows e1 e2).2 row hr).1⟩⟩
  cases r with
  | zero => exact base
  | succ r => exact ⟨base, fun xs rows e1 e2 row hr rs q e3 e4 => ((h xs rows e1 e2).2 row hr).2 rs q e3 e4 r⟩
theorem gd_no {d : D} (s : Shd 60 d) (hd : ∀ xs, d ≠ .tuple xs) : GD d := gd_of ⟨s, fun xs e => absurd e (hd xs), fun xs x e => absurd e (hd xs)⟩ fun xs rows e => absurd e (hd xs)
theorem gd_flat {s : Str} {ys : List D} (sh : Shd 60 (.tuple (.str s :: ys))) (hl : ys.length ≤ 50) (h : ∀ rows, ys[1]? ≠ some (.tuple rows)) : GD (.tuple (.str s :: ys)) := by
  refine gd_of ⟨sh, fun xs e => ?_, fun xs x e e2 => ?_⟩ fun xs rows e e2 => ?_
  · cases e; simp only [List.length_cons]; omega
  · cases e; cases e2; exact ⟨s, rfl⟩
  · cases e; exact absurd e2 (h rows)
theorem gd_round {s : Str} {m : D} {rows tl : List D} (sh : Shd 60 (.tuple (.str s :: m :: .tuple rows :: tl))) (hl : tl.length ≤ 50) (hr : rows.length ≤ 100) (h : ∀ row ∈ rows, ∃ ts q, row = .tuple [.tuple ts, q] ∧ Sc01 ts ∧ GD q) : GD (.tuple (.str s :: m :: .tuple rows :: tl)) := by
  refine gd_of ⟨sh, fun xs e => ?_, fun xs x e e2 => ?_⟩ fun xs rows' e e2 => ?_
  · cases e; simp only [List.length_cons]; omega
  · cases e; cases e2; exact ⟨s, rfl⟩
  · cases e
    cases e2
    refine ⟨hr, fun row hrow => ?_⟩
    obtain ⟨ts, q, e3, h1, h2⟩ := h row hrow
    subst e3
    refine ⟨⟨fun rs e => ?_, fun rs us e e2 => ?_⟩, fun rs q' e e2 => ?_⟩
    · cases e; simp
    · cases e; cases e2; exact h1
    · cases e; cases e2; exact h2
theorem al0 {P : D → Prop} : ∀ d ∈ ([] : List D), P d := fun _ h => by cases h
theorem al1 {P : D → Prop} {a : D} {l : List D} (h : P a) (t : ∀ d ∈ l, P d) : ∀ d ∈ a :: l, P d := fun d hd => by
  rcases List.mem_cons.mp hd with e | hd
  · rw [e]; exact h
  · exact t d hd
/-! ### plans by round_plan, closer -/
def PlS : Nat → Pln → Prop
  | _, .found _ => True
  | 0, .round _ _ => False
  | n + 1, .round ms rows => ms ≠ [] ∧ ms.length ≤ 3 ∧ rows ≠ [] ∧ rows.length ≤ 6 ∧ ∀ q ∈ rows, q.1.length ≤ 3 ∧ PlS n q.2
theorem shd_f {n : Nat} : Shd n (.str "found") := shd_str (by decide +kernel)
theorem shd_r {n : Nat} : Shd n (.str "round") := shd_str (by decide +kernel)
theorem pls_shd : ∀ {n : Nat} {p : Pln}, PlS n p → Shd (3 * n + 1) (plD p)
  | n, .found c, _ => by rw [plD_found]; exact (shd_tup (n := 0) (al1 shd_f (al1 shd_int al0))).mono (by omega)
  | n + 1, .round ms rows, h => by
    rw [plD_round]
    refine shd_tup (n := 3 * n + 3) (al1 shd_r (al1 (shd_tI.mono (by omega)) (al1 (shd_tup (n := 3 * n + 2) fun d hd => ?_) al0)))
    obtain ⟨q, hq, e⟩ := List.mem_map.mp hd
    rw [← e]
    exact shd_tup (n := 3 * n + 1) (al1 (shd_tB.mono (by omega)) (al1 (pls_shd (h.2.2.2.2 q hq).2) al0))
theorem row_shd {n : Nat} {q : List Bool × Pln} (h : PlS n q.2) : Shd (3 * n + 2) (plRow q) := shd_tup (n := 3 * n + 1) (al1 (shd_tB.mono (by omega)) (al1 (pls_shd h) al0))
theorem pls_gd : ∀ {n : Nat} {p : Pln}, n ≤ 15 → PlS n p → GD (plD p)
  | n, .found c, _, h => by rw [plD_found]; exact gd_flat ((shd_tup (n := 0) (al1 shd_f (al1 shd_int al0))).mono (by omega)) (by simp) (fun rows e => by simp at e)
  | n + 1, .round ms rows, hn, h => by
    have sh := pls_shd h
    rw [plD_round] at sh ⊢
    refine gd_round (sh.mono (by omega)) (by simp) (by rw [List.length_map]; have := h.2.2.2.1; omega) fun row hr => ?_
    obtain ⟨q, hq, e⟩ := List.mem_map.mp hr
    obtain ⟨q1, q2⟩ := h.2.2.2.2 q hq
    exact ⟨_, _, e.symm, sc01_B (by omega), pls_gd (by omega) q2⟩
/-! ### _law_spoilt, _law_spoilt_rows -/
def fndL (c : Int) : List D := [.tuple [.str "found", .int (c + 1)], .tuple [.str "found", .int (c - 1)], .tuple [.str "found", .bool true], .tuple [.str "found"], .tuple [.str "nobody"], .none, .list [.str "found", .int 0], .tuple [.str "round", tI [0], .tuple []]]
def mksL (ms : List Int) : List D := [tI (ms ++ [ms.getLastD 0]), tI ms.dropLast, tI (ms ++ [ms.getLastD 0 + 1]), tI (-1 :: ms), tI ms.reverse, .tuple [.bool false], .int 0, tI [99]]
def othL (ms : List Int) (rows : List D) : List D := [.tuple [.str "rounds", tI ms, .tuple rows], .tuple [.str "round", tI ms], .tuple [.str "round", tI ms, .tuple rows, .int 0], .str "round", .tuple [.str "found", .int 0], .list [.str "round", tI ms, .tuple rows]]
def atR (ds : List Int) (a : Nat) (n : Nat) : Nat := (drw ds a 900 % (n : Int)).toNat
def b2i (t : Bool) : Int := if t then 1 else 0
def spoR (f : Pln → Nat → D × Nat) (ds : List Int) (rows : List (List Bool × Pln)) (a : Nat) : D × Nat :=
  if drw ds (a + 1) 6 = 0 then (.tuple (rows.map plRow ++ [.tuple [.tuple [.bool true], .tuple [.str "found", .int 0]]]), a + 2)
  else if drw ds (a + 1) 6 = 1 then (.tuple ((rows.map plRow).take (atR ds a rows.length) ++ (rows.map plRow).drop (atR ds a rows.length + 1)), a + 2)
  else if drw ds (a + 1) 6 = 2 then (.tuple (rows.map plRow).reverse, a + 2)
  else match rows[atR ds a rows.length]? with
    | none => (.none, a)
    | some q =>
      if drw ds (a + 1) 6 = 3 then (.tuple (((rows.map plRow).take (atR ds a rows.length) ++ [.tuple [tI (q.1.map b2i), plD q.2]]) ++ (rows.map plRow).drop (atR ds a rows.length + 1)), a + 2)
      else if drw ds (a + 1) 6 = 4 then (.tuple (((rows.map plRow).take (atR ds a rows.length) ++ [.tuple [tB (q.1.drop 1), plD q.2]]) ++ (rows.map plRow).drop (atR ds a rows.length + 1)), a + 2)
      else (.tuple (((rows.map plRow).take (atR ds a rows.length) ++ [.tuple [tB q.1, (f q.2 (a + 2)).1]]) ++ (rows.map plRow).drop (atR ds a rows.length + 1)), (f q.2 (a + 2)).2)
def spo (ds : List Int) : Nat → Pln → Nat → D × Nat
  | _, .found c, a => (pk (fndL c) ds (a + 1), a + 2)
  | 0, .round _ _, a => (.none, a)
  | n + 1, .round ms rows, a =>
    if drw ds a 5 = 0 then (.tuple [.str "round", pk (mksL ms) ds (a + 1), .tuple (rows.map plRow)], a + 2)
    else if drw ds a 5 = 1 then (pk (othL ms (rows.map plRow)) ds (a + 1), a + 2)
    else (.tuple [.str "round", tI ms, (spoR (spo ds n) ds rows (a + 1)).1], (spoR (spo ds n) ds rows (a + 1)).2)
theorem pk_mem {xs : List D} {ds : List Int} {a : Nat} (h : xs ≠ []) : pk xs ds a ∈ xs := by
  obtain ⟨p1, _⟩ := pk_get (ds := ds) (a := a) h
  unfold pk
  rw [List.getD_eq_getElem?_getD, List.getElem?_eq_getElem p1]
  exact List.getElem_mem p1
theorem pk_all {P : D → Prop} {xs : List D} {ds : List Int} {a : Nat} (h : xs ≠ []) (hp : ∀ d ∈ xs, P d) : P (pk xs ds a) := hp _ (pk_mem h)
/-- what is good of a row list -/
structure RowsG (n : Nat) (rows : List D) : Prop where
  len : rows.length ≤ 7
  ok : ∀ row ∈ rows, ∃ ts q, row = .tuple [.tuple ts, q] ∧ Sc01 ts ∧ GD q ∧ Shd (3 * n + 2) q
theorem RowsG.shd {n : Nat} {rows : List D} (h : RowsG n rows) : Shd (3 * n + 4) (.tuple rows) := shd_tup (n := 3 * n + 3) fun d hd => by
  obtain ⟨ts, q, e, h1, h2, h3⟩ := h.ok d hd
  rw [e]
  exact shd_tup (n := 3 * n + 2) (al1 ((sc01_shd h1).mono (by omega)) (al1 h3 al0))
theorem RowsG.gd {n : Nat} {rows tl : List D} {s : Str} {m : D} (h : RowsG n rows) (hn : n ≤ 15) (hs : PyData.strOk s = true) (hm : Shd (3 * n + 4) m) (ht : ∀ d ∈ tl, Shd (3 * n + 4) d) (hl : tl.length ≤ 50) : GD (.tuple (.str s :: m :: .tuple rows :: tl)) ∧ Shd (3 * n + 5) (.tuple (.str s :: m :: .tuple rows :: tl)) := by
  have sh : Shd (3 * n + 5) (.tuple (.str s :: m :: .tuple rows :: tl)) := shd_tup (n := 3 * n + 4) (al1 (shd_str hs) (al1 hm (al1 h.shd ht)))
  refine ⟨gd_round (sh.mono (by omega)) hl (by have := h.len; omega) fun row hr => ?_, sh⟩
  obtain ⟨ts, q, e, h1, h2, h3⟩ := h.ok row hr
  exact ⟨ts, q, e, h1, h2⟩
theorem rows_of {n : Nat} {rows : List (List Bool × Pln)} (hn : n ≤ 15) (hl : rows.length ≤ 6) (h : ∀ q ∈ rows, q.1.length ≤ 3 ∧ PlS n q.2) : RowsG n (rows.map plRow) :=
  ⟨by rw [List.length_map]; omega, fun row hr => by
    obtain ⟨q, hq, e⟩ := List.mem_map.mp hr
    obtain ⟨q1, q2⟩ := h q hq
    exact ⟨_, _, e.symm, sc01_B (by omega), pls_gd hn q2, (pls_shd q2).mono (by omega)⟩⟩
theorem RowsG.sub {n : Nat} {rows us : List D} (h : RowsG n rows) (hl : us.length ≤ 7) (hs : ∀ u ∈ us, u ∈ rows) : RowsG n us := ⟨hl, fun row hr => h.ok row (hs row hr)⟩
theorem RowsG.mid {n : Nat} {rows : List D} (h : RowsG n rows) (j : Nat) (hj : j < rows.length) {ts : List D} {q : D} (h1 : Sc01 ts) (h2 : GD q) (h3 : Shd (3 * n + 2) q) : RowsG n ((rows.take j ++ [.tuple [.tuple ts, q]]) ++ rows.drop (j + 1)) := by
  refine ⟨?_, fun row hr => ?_⟩
  · have := h.len
    simp only [List.length_append, List.length_take, List.length_drop, List.length_singleton]
    omega
  · rcases List.mem_append.mp hr with hr | hr
    · rcases List.mem_append.mp hr with hr | hr
      · exact h.ok row (List.mem_of_mem_take hr)
      · rw [List.mem_singleton] at hr
        exact ⟨ts, q, hr, h1, h2, h3⟩
    · exact h.ok row (List.mem_of_mem_drop hr)
theorem atR_lt {ds : List Int} {a n : Nat} (h : 0 < n) : atR ds a n < n := by
  have h1 := Int.emod_nonneg (drw ds a 900) (b := (n : Int)) (by omega)
  have h2 := Int.emod_lt_of_pos (drw ds a 900) (b := (n : Int)) (by omega)
  unfold atR
  omega
theorem spoR_ok {f : Pln → Nat → D × Nat} {ds : List Int} {n : Nat} {rows : List (List Bool × Pln)} {a : Nat} (hn : n ≤ 15) (ne : rows ≠ []) (hl : rows.length ≤ 6) (h : ∀ q ∈ rows, q.1.length ≤ 3 ∧ PlS n q.2) (hf : ∀ p b, PlS n p → GD (f p b).1 ∧ Shd (3 * n + 2) (f p b).1) :
    ∃ us, (spoR f ds rows a).1 = .tuple us ∧ RowsG n us := by
  have R := rows_of hn hl h
  have hlt := atR_lt (ds := ds) (a := a) (List.length_pos_iff.mpr ne)
  have hlt' : atR ds a rows.length < (rows.map plRow).length := by rw [List.length_map]; exact hlt
  have hR := R.len
  unfold spoR
  split
  · refine ⟨_, rfl, ?_, fun row hr => ?_⟩
    · simp only [List.length_append, List.length_map, List.length_singleton]; omega
    · rcases List.mem_append.mp hr with hr | hr
      · exact R.ok row hr
      · rw [List.mem_singleton] at hr
        have sh : Shd (3 * n + 2) (.tuple [.str "found", .int 0]) := (shd_tup (n := 0) (al1 shd_f (al1 shd_int al0))).mono (by omega)
        exact ⟨_, _, hr, sc01_B (k := [true]) (by simp), gd_flat (sh.mono (by omega)) (by simp) (fun rows e => by simp at e), sh⟩
  · split
    · exact ⟨_, rfl, R.sub (by simp only [List.length_append, List.length_take, List.length_drop]; omega) fun u hu => by
        rcases List.mem_append.mp hu with hu | hu
        · exact List.mem_of_mem_take hu
        · exact List.mem_of_mem_drop hu⟩
    · split
      · exact ⟨_, rfl, R.sub (by rw [List.length_reverse]; exact hR) fun u hu => List.mem_reverse.mp hu⟩
      · rw [List.getElem?_eq_getElem hlt]
        have hq := h _ (List.getElem_mem hlt)
        dsimp only
        split
        · refine ⟨_, rfl, R.mid _ hlt' (ts := (rows[atR ds a rows.length].1.map b2i).map .int) ⟨by rw [List.length_map, List.length_map]; omega, fun t ht => ?_⟩ (pls_gd hn hq.2) ((pls_shd hq.2).mono (by omega))⟩
          obtain ⟨i, hi, e⟩ := List.mem_map.mp ht
          obtain ⟨b, _, e2⟩ := List.mem_map.mp hi
          rw [← e, ← e2]
          cases b
          · exact .inr (.inl rfl)
          · exact .inr (.inr rfl)
        · split
          · exact ⟨_, rfl, R.mid _ hlt' (sc01_B (by rw [List.length_drop]; omega)) (pls_gd hn hq.2) ((pls_shd hq.2).mono (by omega))⟩
          · obtain ⟨g1, g2⟩ := hf _ (a + 2) hq.2
            exact ⟨_, rfl, R.mid _ hlt' (sc01_B (by omega)) g1 g2⟩
theorem fnd_ok {c : Int} : ∀ d ∈ fndL c, GD d ∧ Shd 2 d := by
  have t2 : ∀ {y : D}, Shd 1 y → (∀ rows, y ≠ .tuple rows ∨ True) → GD (.tuple [.str "found", y]) ∧ Shd 2 (.tuple [.str "found", y]) := fun {y} h _ => by
    have sh : Shd 2 (.tuple [.str "found", y]) := shd_tup (n := 1) (al1 shd_f (al1 h al0))
    exact ⟨gd_flat (sh.mono (by omega)) (by simp) (fun rows e => by simp at e), sh⟩
  have t1 : ∀ {s : Str}, PyData.strOk s = true → GD (.tuple [.str s]) ∧ Shd 2 (.tuple [.str s]) := fun {s} hs => by
    have sh : Shd 2 (.tuple [.str s]) := shd_tup (n := 1) (al1 (shd_str hs) al0)
    exact ⟨gd_flat (sh.mono (by omega)) (by simp) (fun rows e => by simp at e), sh⟩
  refine al1 (t2 shd_int fun _ => .inr trivial) (al1 (t2 shd_int fun _ => .inr trivial) (al1 (t2 shd_bl fun _ => .inr trivial) (al1 (t1 (by decide +kernel)) (al1 (t1 (by decide +kernel)) (al1 ⟨gd_no shd_non (by simp), shd_non⟩ (al1 ⟨gd_no ((shd_lst (n := 0) (al1 shd_f (al1 shd_int al0))).mono (by omega)) (by simp), (shd_lst (n := 0) (al1 shd_f (al1 shd_int al0))).mono (by omega)⟩ (al1 ?_ al0)))))))
  have sh : Shd 2 (.tuple [.str "round", tI [0], .tuple []]) := shd_tup (n := 1) (al1 shd_r (al1 shd_tI (al1 shd_nil_T al0)))
  exact ⟨gd_round (sh.mono (by omega)) (by simp) (by simp) (fun row hr => by cases hr), sh⟩
theorem mks_ok {ms : List Int} : ∀ d ∈ mksL ms, Shd 1 d :=
  al1 shd_tI (al1 shd_tI (al1 shd_tI (al1 shd_tI (al1 shd_tI (al1 (shd_tup (n := 0) (al1 shd_bl al0)) (al1 shd_int (al1 shd_tI al0)))))))
theorem spo_ok {ds : List Int} : ∀ {n : Nat} {p : Pln} {a : Nat}, n ≤ 15 → PlS n p → GD (spo ds n p a).1 ∧ Shd (3 * n + 2) (spo ds n p a).1
  | n, .found c, a, _, _ => by
    have h := pk_all (P := fun d => GD d ∧ Shd 2 d) (xs := fndL c) (ds := ds) (a := a + 1) (by simp [fndL]) fnd_ok
    have e : (spo ds n (.found c) a).1 = pk (fndL c) ds (a + 1) := by cases n <;> rfl
    rw [e]
    exact ⟨h.1, h.2.mono (by omega)⟩
  | n + 1, .round ms rows, a, hn, h => by
    obtain ⟨h1, h2, h3, h4, h5⟩ := h
    have R := rows_of (by omega) h4 h5
    unfold spo
    split
    · have hm := pk_all (P := fun d => Shd 1 d) (xs := mksL ms) (ds := ds) (a := a + 1) (by simp [mksL]) mks_ok
      have := R.gd (s := "round") (tl := []) (by omega) (by decide +kernel) (hm.mono (by omega)) al0 (by simp)
      exact ⟨this.1, this.2.mono (by omega)⟩
    · split
      · refine pk_all (P := fun d => GD d ∧ Shd (3 * (n + 1) + 2) d) (xs := othL ms (rows.map plRow)) (ds := ds) (a := a + 1) (by simp [othL]) ?_
        have r1 := R.gd (s := "rounds") (m := tI ms) (tl := []) (by omega) (by decide +kernel) (shd_tI.mono (by omega)) al0 (by simp)
        have r2 := R.gd (s := "round") (m := tI ms) (tl := [.int 0]) (by omega) (by decide +kernel) (shd_tI.mono (by omega)) (al1 shd_int al0) (by simp)
        have s2 : Shd 2 (.tuple [.str "round", tI ms]) := shd_tup (n := 1) (al1 shd_r (al1 shd_tI al0))
        have s3 : Shd 2 (.tuple [.str "found", .int 0]) := shd_tup (n := 1) (al1 shd_f (al1 shd_int al0))
        have s4 : Shd (3 * n + 5) (.list [.str "round", tI ms, .tuple (rows.map plRow)]) := shd_lst (n := 3 * n + 4) (al1 shd_r (al1 (shd_tI.mono (by omega)) (al1 R.shd al0)))
        refine al1 ⟨r1.1, r1.2.mono (by omega)⟩ (al1 ⟨gd_flat (s2.mono (by omega)) (by simp) (fun rows e => by simp at e), s2.mono (by omega)⟩ (al1 ⟨r2.1, r2.2.mono (by omega)⟩ (al1 ⟨gd_no shd_r (by simp), shd_r⟩ (al1 ⟨gd_flat (s3.mono (by omega)) (by simp) (fun rows e => by simp at e), s3.mono (by omega)⟩ (al1 ⟨gd_no (s4.mono (by omega)) (by simp), s4.mono (by omega)⟩ al0)))))
      · obtain ⟨us, e, U⟩ := spoR_ok (f := spo ds n) (ds := ds) (a := a + 1) (by omega) h3 h4 h5 fun p b hp => spo_ok (by omega) hp
        show GD (.tuple [.str "round", tI ms, (spoR (spo ds n) ds rows (a + 1)).1]) ∧ Shd _ (.tuple [.str "round", tI ms, (spoR (spo ds n) ds rows (a + 1)).1])
        rw [e]
        have := U.gd (s := "round") (m := tI ms) (tl := []) (by omega) (by decide +kernel) (shd_tI.mono (by omega)) al0 (by simp)
        exact ⟨this.1, this.2.mono (by omega)⟩
end
section
set_option autoImplicit false
/-! ### an owned list that stays as it is from here on -/
theorem Pt.frzO {K : PySem.W.Frag} {B : Bd} {δ : List Slot} {σ : L2.St} {H : Hp} {M ad : List Addr} {n i : Nat} {ds : List D} (bo : BdOk B) (hn : B.δ0.length = n) (p : Pt K B δ σ H M ad) (hi : n ≤ i) (e : δ[i]? = some (.lst ds)) :
    Pt K B (δ.set i (.imm (.list ds))) σ H (M.filter fun a => !decide (a = ad.getD i 0)) ad := by
  have hil : i < δ.length := (List.getElem?_eq_some_iff.mp e).1
  have mem : ∀ a, a ∈ (M.filter fun a => !decide (a = ad.getD i 0)) ↔ a ∈ M ∧ a ≠ ad.getD i 0 := fun a => by rw [List.mem_filter]; simp
  have sub : ∀ a ∈ (M.filter fun a => !decide (a = ad.getD i 0)), a ∈ M := fun a h => ((mem a).mp h).1
  have key : ∀ (m : Nat) u, (δ.set i (.imm (.list ds)))[m]? = some u → (m = i ∧ u = .imm (.list ds)) ∨ (m ≠ i ∧ δ[m]? = some u) := fun m u e => by
    by_cases c : m = i
    · subst c
      rw [List.getElem?_set_self hil] at e
      exact .inl ⟨rfl, (Option.some.inj e).symm⟩
    · rw [List.getElem?_set_ne (Ne.symm c)] at e
      exact .inr ⟨c, e⟩
  have own : ∀ {m : Nat} {u : Slot}, (δ.set i (.imm (.list ds)))[m]? = some u → u.own = true → m ≠ i ∧ δ[m]? = some u := fun {m u} e w => by
    rcases key m u e with ⟨_, c⟩ | c
    · subst c; cases w
    · exact c
  have ow : ∀ a, Ow ad (δ.set i (.imm (.list ds))) a → Ow ad δ a := fun a ⟨m, u, e, w, q⟩ => ⟨m, u, (own e w).2, w, q⟩
  refine ⟨⟨by rw [List.length_set]; exact p.sm.len, fun m u em => ?_, fun m k u v a b c d q => p.sm.inj m k u v (own a c).2 (own b d).2 c d q, fun a ha => p.sm.tr a (sub a ha)⟩, fun a ha => (mem a).mpr ⟨p.sub a ha, fun z => own_new bo hn p hi e rfl (by rw [← z]; exact ha)⟩, fun a o q w => p.fr a o q w, fun m t q w => ?_, fun a o => p.nw a (ow a o), fun a ha => p.fm a (sub a ha)⟩
  · rcases key m u em with ⟨c1, c2⟩ | ⟨c1, c2⟩
    · subst c1 c2
      obtain ⟨h1, h2, us, h3, h4⟩ := p.sm.ok m _ e
      exact ⟨_, h1, .lst (by rw [mask_out (fun z => ((mem _).mp z).2 rfl)]; exact h3) (dpAll_mono (mask_sub sub) _ h4)⟩
    · refine (p.sm.ok m u c2).sub sub fun w => (mem _).mpr ⟨((p.sm.ok m u c2).inM w).1, fun z => c1 (p.sm.inj m i u _ c2 e w rfl z)⟩
  · obtain ⟨c1, t', c2, c3⟩ := p.ps m t q w
    have hm := (List.getElem?_eq_some_iff.mp q).1
    exact ⟨c1, t', by rw [List.getElem?_set_ne (by omega)]; exact c2, c3⟩
theorem sdn_frz {S : Sc} {n : Nat} {sts : List Stmt} {δ δ' : List Slot} {C : Cn} {x : Str} {i : Nat} {ds : List D} (l : LookS S.N δ x i (.lst ds) (.imm (.list ds)) δ') (hi : n ≤ i) (h : SDn S n sts δ' C) : SDn S n sts δ C := by
  intro X ok B bo hn σ H ⟨M, ad, p⟩
  have := p.frzO bo hn hi l.slot
  rw [l.eq] at this
  exact h X ok B bo hn σ H ⟨_, ad, this⟩
/-! ### the makes of a round -/
theorem pkI_mem {xs ds : List Int} {a : Nat} (h : xs ≠ []) : pkI xs ds a ∈ xs := by
  have hl : 0 < xs.length := List.length_pos_iff.mpr h
  have h1 := Int.emod_nonneg (drw ds a 900) (b := (xs.length : Int)) (by omega)
  have h2 := Int.emod_lt_of_pos (drw ds a 900) (b := (xs.length : Int)) (by omega)
  have hlt : (drw ds a 900 % (xs.length : Int)).toNat < xs.length := by omega
  unfold pkI
  rw [List.getD_eq_getElem?_getD, List.getElem?_eq_getElem hlt]
  exact List.getElem_mem hlt
theorem rmK_mem {ds : List Int} {a : Nat} {fits : List Int} (h : fits ≠ []) : ∀ i, ∀ m ∈ rmK ds a fits i, m ∈ fits
  | 0, m, hm => by simp [rmK] at hm
  | i + 1, m, hm => by
    unfold rmK addI at hm
    split at hm
    · exact rmK_mem h i m hm
    · rcases List.mem_append.mp hm with hm | hm
      · exact rmK_mem h i m hm
      · rw [List.mem_singleton] at hm
        rw [hm]; exact pkI_mem h
theorem rmK_ne {ds : List Int} {a : Nat} {fits : List Int} : ∀ i, rmK ds a fits (i + 1) ≠ []
  | i => by
    unfold rmK addI
    split
    · next h => exact fun z => by rw [z] at h; cases h
    · simp
theorem fit_rg {n : Nat} {sk : List Int} {m : Int} (h : m ∈ fitL n sk) : 0 ≤ m ∧ m < (n : Int) := upto_mem.mp (List.mem_filter.mp h).1
theorem drw_rgB {ds : List Int} {a : Nat} {m : Int} (h : 0 < m) : 0 ≤ drw ds a m ∧ drw ds a m < m := by
  unfold drw
  split
  · exact ⟨Int.emod_nonneg _ (by omega), Int.emod_lt_of_pos _ h⟩
  · omega
theorem rmL_ok {ds : List Int} {a n w : Nat} {sk : List Int} (hn : 0 < n) (hw : 1 ≤ w) (hw3 : w ≤ 3) : (rmL ds a n sk w).1 ≠ [] ∧ (rmL ds a n sk w).1.length ≤ 4 ∧ ∀ m ∈ (rmL ds a n sk w).1, 0 ≤ m ∧ m < (n : Int) := by
  unfold rmL
  split
  · next h =>
    refine ⟨fun z => ?_, ?_, fun m hm => fit_rg (rmK_mem h.2 w m (sortI_mem.mp hm))⟩
    · obtain ⟨w', rfl⟩ : ∃ v, w = v + 1 := ⟨w - 1, by omega⟩
      have := congrArg List.length z
      rw [sortI_len] at this
      exact rmK_ne w' (List.length_eq_zero_iff.mp this)
    · rw [sortI_len]
      have := rmK_len (ds := ds) (a := a + 1) (fits := fitL n sk) w
      omega
  · split
    · next h =>
      refine ⟨fun z => ?_, by rw [List.length_take]; omega, fun m hm => fit_rg (List.mem_of_mem_take hm)⟩
      cases e : fitL n sk with
      | nil => exact h.2 e
      | cons x r => rw [e] at z; cases z
    · split
      · refine ⟨fun z => ?_, by rw [upto_len]; omega, fun m hm => ?_⟩
        · have := congrArg List.length z
          rw [upto_len] at this
          simp only [List.length_nil] at this
          omega
        · have := upto_mem.mp hm
          omega
      · have r1 := drw_rgB (ds := ds) (a := a + 1) (m := n) (by omega)
        have r2 := drw_rgB (ds := ds) (a := a + 2) (m := n) (by omega)
        split
        · refine ⟨by simp, by simp, fun m hm => ?_⟩
          rcases List.mem_cons.mp hm with e | hm
          · rw [e]; exact r1
          · rw [List.mem_singleton] at hm
            rw [hm]; exact r2
        · refine ⟨by simp, by simp, fun m hm => ?_⟩
          rw [List.mem_singleton] at hm
          rw [hm]; exact r1
/-! ### the class of a candidate -/
theorem cls_of {h : Hist} {sk : List Int} {c : Int} (hc : 0 ≤ c ∧ c < (h.length : Int)) : ∃ (j : Nat) (l : List Int), (cls h sk)[j]? = some l ∧ c ∈ l := by
  have hm := ((grp_keys (mark h sk) (upto h.length)).2 (mark h sk c)).mpr ⟨c, upto_mem.mpr hc, rfl⟩
  obtain ⟨⟨k, l⟩, hp, e⟩ := List.mem_map.mp hm
  have hl := grp_part _ _ k l hp
  obtain ⟨j, hj⟩ := List.getElem?_of_mem hp
  refine ⟨j, l, ?_, ?_⟩
  · unfold cls clsT
    rw [List.getElem?_map, hj]; rfl
  · rw [hl, List.mem_filter]
    exact ⟨upto_mem.mpr hc, decide_eq_true e.symm⟩
def homL (h : Hist) (sk : List Int) (c : Int) : List Int := (upto (cls h sk).length).filter fun k => decide (c ∈ (cls h sk).getD k.toNat [])
def hom (h : Hist) (sk left : List Int) : Int := (homL h sk (left.headD 0)).headD 0
theorem homL_ne {h : Hist} {sk : List Int} {c : Int} (hc : 0 ≤ c ∧ c < (h.length : Int)) : homL h sk c ≠ [] := by
  obtain ⟨j, l, h1, h2⟩ := cls_of (sk := sk) hc
  have hj := (List.getElem?_eq_some_iff.mp h1).1
  have : (j : Int) ∈ homL h sk c := by
    refine List.mem_filter.mpr ⟨upto_mem.mpr ⟨by omega, by omega⟩, decide_eq_true ?_⟩
    rw [Int.toNat_natCast, List.getD_eq_getElem?_getD, h1]; exact h2
  exact fun z => by rw [z] at this; cases this
theorem hom_rg {h : Hist} {sk left : List Int} (hc : 0 ≤ left.headD 0 ∧ left.headD 0 < (h.length : Int)) : 0 ≤ hom h sk left ∧ hom h sk left < ((cls h sk).length : Int) := by
  have ne := homL_ne (sk := sk) hc
  unfold hom
  cases e : homL h sk (left.headD 0) with
  | nil => exact absurd e ne
  | cons x r =>
    have hx : x ∈ homL h sk (left.headD 0) := by rw [e]; exact List.mem_cons_self
    exact upto_mem.mp (List.mem_filter.mp hx).1
/-! ### _law_built -/
def bltP (f : List Int → Nat → D × Nat) (h : Hist) (left ms : List Int) (s : List D × Nat) (k : List Bool) : List D × Nat := (s.1 ++ [.tuple [tB k, (f (partOf h left ms k) s.2).1]], (f (partOf h left ms k) s.2).2)
def bltL (ms : List Int) (rows : List D) : List D := (List.replicate 9 [.tuple [.str "round", tI ms, .tuple rows]]).flatten ++ [.tuple [.str "round", lI ms, .tuple rows], .tuple [.str "round", tI ms, .list rows]]
def bltA (h : Hist) (sk left : List Int) : Bool := allIn left ((cls h sk).getD (hom h sk left).toNat [])
def bltF (h : Hist) (sk left : List Int) : D := .tuple [.str "found", .int (hom h sk left)]
def bltR (f : List Int → Nat → D × Nat) (ds : List Int) (h : Hist) (sk left : List Int) (w a : Nat) : D × Nat :=
  (pk (bltL (rmL ds a h.length sk w).1 ((due h left (rmL ds a h.length sk w).1).foldl (bltP f h left (rmL ds a h.length sk w).1) ([], (rmL ds a h.length sk w).2)).1) ds ((due h left (rmL ds a h.length sk w).1).foldl (bltP f h left (rmL ds a h.length sk w).1) ([], (rmL ds a h.length sk w).2)).2,
    ((due h left (rmL ds a h.length sk w).1).foldl (bltP f h left (rmL ds a h.length sk w).1) ([], (rmL ds a h.length sk w).2)).2 + 1)
def bltS (f : List Int → Nat → D × Nat) (ds : List Int) (h : Hist) (sk left : List Int) (w a : Nat) : D × Nat :=
  if drw ds a 12 = 0 then (bltF h sk left, a + 1) else bltR f ds h sk left w (a + 1)
def blt (ds : List Int) (h : Hist) (sk : List Int) (w : Nat) : Nat → List Int → Nat → D × Nat
  | 0, left, a => (bltF h sk left, a)
  | n + 1, left, a => if bltA h sk left = true then (if 0 < drw ds a 4 then (bltF h sk left, a + 1) else bltS (blt ds h sk w n) ds h sk left w (a + 1)) else bltS (blt ds h sk w n) ds h sk left w a
structure RowsB (n : Nat) (rows : List D) : Prop where
  ok : ∀ row ∈ rows, ∃ ts q, row = .tuple [.tuple ts, q] ∧ Sc01 ts ∧ GD q ∧ Shd (3 * n + 2) q
theorem bltF_ok {h : Hist} {sk left : List Int} {n : Nat} : GD (bltF h sk left) ∧ Shd (n + 1) (bltF h sk left) := by
  have sh : Shd 1 (bltF h sk left) := shd_tup (n := 0) (al1 shd_f (al1 shd_int al0))
  exact ⟨gd_flat (sh.mono (by omega)) (by simp) (fun rows e => by simp at e), sh.mono (by omega)⟩
theorem bltL_ok {ms : List Int} {rows : List D} {n : Nat} (hn : n ≤ 15) (o : RowsB n rows) (hl : rows.length ≤ 100) : ∀ d ∈ bltL ms rows, GD d ∧ Shd (3 * (n + 1) + 2) d := by
  have hr : ∀ d ∈ rows, Shd (3 * n + 3) d := fun d hd => by
    obtain ⟨ts, q, e, h1, h2, h3⟩ := o.ok d hd
    rw [e]
    exact shd_tup (n := 3 * n + 2) (al1 ((sc01_shd h1).mono (by omega)) (al1 h3 al0))
  have key : ∀ m : D, Shd 1 m → GD (.tuple [.str "round", m, .tuple rows]) ∧ Shd (3 * (n + 1) + 2) (.tuple [.str "round", m, .tuple rows]) := fun m hm => by
    have sh : Shd (3 * n + 5) (.tuple [.str "round", m, .tuple rows]) := shd_tup (n := 3 * n + 4) (al1 shd_r (al1 (hm.mono (by omega)) (al1 (shd_tup hr) al0)))
    exact ⟨gd_round (sh.mono (by omega)) (by simp) hl fun row h => by
      obtain ⟨ts, q, e, h1, h2, h3⟩ := o.ok row h
      exact ⟨ts, q, e, h1, h2⟩, sh.mono (by omega)⟩
  intro d hd
  unfold bltL at hd
  rcases List.mem_append.mp hd with hd | hd
  · obtain ⟨l, hl1, hl2⟩ := List.mem_flatten.mp hd
    have := List.eq_of_mem_replicate hl1
    rw [this, List.mem_singleton] at hl2
    rw [hl2]; exact key _ shd_tI
  · rcases List.mem_cons.mp hd with e | hd
    · rw [e]; exact key _ shd_lI
    · rw [List.mem_singleton] at hd
      rw [hd]
      have sh : Shd (3 * n + 5) (.tuple [.str "round", tI ms, .list rows]) := shd_tup (n := 3 * n + 4) (al1 shd_r (al1 (shd_tI.mono (by omega)) (al1 (shd_lst hr) al0)))
      exact ⟨gd_flat (sh.mono (by omega)) (by simp) (fun rows e => by simp at e), sh.mono (by omega)⟩
theorem due_len {h : Hist} {left ms : List Int} {k : List Bool} (hk : k ∈ due h left ms) : k.length = ms.length := by
  obtain ⟨c, _, e⟩ := due_mem.mp hk
  rw [← e]
  unfold pat
  rw [List.length_map]
theorem dues_len {h : Hist} {left ms : List Int} : (due h left ms).length ≤ left.length := by
  have := pts_len (h := h) (left := left) (ch := ms)
  unfold ptsD at this
  rwa [List.length_map] at this
theorem blt_ok {ds : List Int} {h : Hist} {sk : List Int} {w : Nat} (hn0 : 0 < h.length) (hw : 1 ≤ w) (hw3 : w ≤ 3) : ∀ (n : Nat) (left : List Int) (a : Nat), n ≤ 15 → left.length ≤ 6 → GD (blt ds h sk w n left a).1 ∧ Shd (3 * n + 2) (blt ds h sk w n left a).1
  | 0, left, a, _, _ => by unfold blt; exact ⟨(bltF_ok (n := 1)).1, (bltF_ok (n := 1)).2⟩
  | n + 1, left, a, hn, hl => by
    have hS : ∀ b, GD (bltS (blt ds h sk w n) ds h sk left w b).1 ∧ Shd (3 * (n + 1) + 2) (bltS (blt ds h sk w n) ds h sk left w b).1 := fun b => by
      unfold bltS
      split
      · exact ⟨(bltF_ok (n := 3 * (n + 1) + 1)).1, (bltF_ok (n := 3 * (n + 1) + 1)).2⟩
      · obtain ⟨m1, m2, m3⟩ := rmL_ok (ds := ds) (a := b + 1) (sk := sk) hn0 hw hw3
        unfold bltR
        have key : ∀ ks : List (List Bool), (∀ k ∈ ks, k ∈ due h left (rmL ds (b + 1) h.length sk w).1) → ∀ s : List D × Nat, RowsB n s.1 → RowsB n (ks.foldl (bltP (blt ds h sk w n) h left (rmL ds (b + 1) h.length sk w).1) s).1 ∧ (ks.foldl (bltP (blt ds h sk w n) h left (rmL ds (b + 1) h.length sk w).1) s).1.length = s.1.length + ks.length := by
          intro ks
          induction ks with
          | nil => intro _ s o; exact ⟨o, rfl⟩
          | cons k ks ih =>
            intro hk s o
            have hkl := due_len (hk k List.mem_cons_self)
            have hpl : (partOf h left (rmL ds (b + 1) h.length sk w).1 k).length ≤ 6 := Nat.le_trans (List.length_filter_le _ _) hl
            have o2 : RowsB n (bltP (blt ds h sk w n) h left (rmL ds (b + 1) h.length sk w).1 s k).1 := ⟨fun row hr => by
              rcases List.mem_append.mp hr with hr | hr
              · exact o.ok row hr
              · rw [List.mem_singleton] at hr
                obtain ⟨g1, g2⟩ := blt_ok hn0 hw hw3 n (partOf h left (rmL ds (b + 1) h.length sk w).1 k) s.2 (by omega) hpl
                exact ⟨_, _, hr, sc01_B (by omega), g1, g2⟩⟩
            obtain ⟨r1, r2⟩ := ih (fun x hx => hk x (List.mem_cons_of_mem _ hx)) _ o2
            refine ⟨r1, ?_⟩
            rw [List.foldl_cons, r2]
            unfold bltP
            simp only [List.length_append, List.length_cons, List.length_nil]
            omega
        obtain ⟨r1, r2⟩ := key _ (fun k hk => hk) ([], (rmL ds (b + 1) h.length sk w).2) ⟨fun row hr => by cases hr⟩
        have hd := dues_len (h := h) (left := left) (ms := (rmL ds (b + 1) h.length sk w).1)
        simp only [List.length_nil] at r2
        exact pk_all (P := fun d => GD d ∧ Shd (3 * (n + 1) + 2) d) (by simp [bltL]) (bltL_ok (by omega) r1 (by omega))
    unfold blt
    split
    · split
      · exact ⟨(bltF_ok (n := 3 * (n + 1) + 1)).1, (bltF_ok (n := 3 * (n + 1) + 1)).2⟩
      · exact hS _
    · exact hS _
end
section
set_option autoImplicit false
/-! _law_classes -/
def rLc (ds : List D) (d : D) : Prop := ∃ h sk, HOk h ∧ ds = [hD h, tI sk] ∧ d = .list ((cls h sk).map tI)
theorem lB_mark {h : Hist} {sk : List Int} {c : Int} : PyData.list (((upto h.length).filter fun m => !decide (m ∈ sk)).map fun m => .bool (brk h c m)) = lB (mark h sk c) := by
  unfold mark tst
  show _ = PyData.list (List.map PyData.bool _)
  rw [List.map_map]; rfl
theorem filter_first {α : Type} {pr : α → Bool} : ∀ {l : List α} {j : Nat} {x : α}, l[j]? = some x → pr x = true → (∀ m, m < j → ∀ y, l[m]? = some y → pr y = false) → ∃ r, l.filter pr = x :: r
  | [], j, x, h, _, _ => by simp at h
  | y :: l, 0, x, h, hx, _ => by
    have e : y = x := by simpa using h
    subst e
    exact ⟨l.filter pr, by rw [List.filter_cons, if_pos hx]⟩
  | y :: l, j + 1, x, h, hx, hn => by
    have hy := hn 0 (by omega) y rfl
    obtain ⟨r, hr⟩ := filter_first (l := l) (j := j) (x := x) (by simpa using h) hx (fun m hm z hz => hn (m + 1) (by omega) z (by simpa using hz))
    exact ⟨r, by rw [List.filter_cons, if_neg (by rw [hy]; decide), hr]⟩
theorem set_same {α β : Type} {f : α → β} {l : List α} {j : Nat} {x y : α} (h : l[j]? = some x) (e : f y = f x) : (l.set j y).map f = l.map f := by
  refine List.ext_getElem? fun k => ?_
  rw [List.getElem?_map, List.getElem?_map]
  by_cases c : j = k
  · subst c
    rw [List.getElem?_set_self (List.getElem?_eq_some_iff.mp h).1, h]
    exact congrArg some e
  · rw [List.getElem?_set_ne c]
theorem w_lclasses {g : Ga} {k j1 : Nat} (W : Wb g) (A : CallOk g j1 "_law_breaks" (PureC 3 rBrk)) (hj1 : j1 ≤ k) (F : Fd g "_law_classes" 37 ["_law_history_here", "_law_skipped"]) : CallOk g (k + 1) "_law_classes" (PureC 2 rLc) := by
  refine mk_pure (N := ["_law_history_here", "_law_skipped", "_law_rows", "_law_one", "_law_row", "_law_homes", "_law_part", "_law_make"]) F ⟨rfl, rfl, rfl, by decide +kernel, rfl, by decide +kernel, by decide +kernel⟩ ?_
  rintro ds d - ⟨h, sk, ho, rfl, rfl⟩
  have h6 := ho.len
  show SDn _ _ _ [.imm (hD h), .imm (tI sk), .un, .un, .un, .un, .un, .un] _
  iterate 5 k_extra "go1"
  refine sdn_sg ?_
  refine sg_cons (sg_for ?_)
  k_extra "go"
  refine ⟨by omega, by omega, fun i δ L => ∃ ps : List Prt, (ps.map fun p => (p.1, p.2.2)) = grp (mark h sk) (upto i) ∧ L = ps.map (·.2) ∧ δ = [.imm (hD h), .imm (tI sk), .lst (ps.map prtR), .un, .un, .un, .un, .un], ⟨[], rfl, rfl, rfl⟩, ?_, ?_⟩
  · rintro i d δ2 L2 hd ⟨ps, hps, rfl, rfl⟩
    rw [Int.toNat_natCast, rg_upto, List.getElem?_map] at hd
    obtain ⟨x, hx, rfl⟩ : ∃ x, (upto h.length)[i]? = some x ∧ d = .int x := by
      cases e : (upto h.length)[i]? with
      | none => rw [e] at hd; cases hd
      | some x => rw [e] at hd; cases hd; exact ⟨x, rfl, rfl⟩
    obtain ⟨hi, rfl⟩ := upto_get hx
    have hpl : ps.length ≤ 6 := by
      have h1 := grp_len (mark h sk) (upto i)
      rw [← hps, List.length_map, upto_len] at h1
      omega
    refine ⟨[.imm (hD h), .imm (tI sk), .lst (ps.map prtR), .imm (.int i), .un, .un, .un, .un], tgd_name (by k_extra "lk") rfl (by k_extra "lo") (by k_extra "tp"), ?_, ?_⟩
    · rintro ad a ⟨m, s, e, w, q⟩
      rcases m with _ | _ | _ | _ | m
      · exact ⟨0, s, e, w, q⟩
      · exact ⟨1, s, e, w, q⟩
      · exact ⟨2, s, e, w, q⟩
      · cases e; cases w
      · exact ⟨m + 4, s, e, w, q⟩
    refine sg_cons (sg_of ?_)
    refine sd_setC (ev_lcg PyData.int [("_law_make", 7)] (by k_extra "nm") ?_) (by k_extra "nm") rfl
    k_extra "go"
    refine ⟨by omega, by omega, upto h.length, by rw [Int.toNat_natCast, rg_upto], by rw [upto_len]; omega, fun m => !decide (m ∈ sk), fun m => .bool (brk h i m), fun x hx => ⟨_, tgc_name (by k_extra "lk") rfl (by k_extra "nm"), ?_⟩, ?_⟩
    · refine eif_one ?_
      k_extra "go"
      intro _
      refine i_call A (by show j1 ≤ k; omega) (by k_extra "nm") ?_
      k_extra "go"
      have := upto_mem.mp hx
      exact ⟨_, ⟨h, _, _, ho, this.1, this.2, rfl, rfl⟩, rfl, rfl⟩
    refine ⟨_, _, _, by k_extra "lk", rfl, ?_⟩
    rw [lB_mark]
    dsimp only
    have hil : ∀ q : Prt, Shd 2 (prtA q) := fun q => shd_lst (n := 1) (ds := [lB q.1, lI q.2.2]) (by intro d hd; simp at hd; rcases hd with rfl | rfl; exact shd_lB; exact shd_lI)
    have hsn : grp (mark h sk) (upto (i + 1)) = addC (mark h sk i) i (grp (mark h sk) (upto i)) := by rw [upto_succ, grp_snoc]
    refine sg_cons (sg_of ?_)
    refine sd_setlcO prtR [("_law_part", 6)] (by k_extra "lk") (by k_extra "vs") (by omega) (by k_extra "nm") rfl (by k_extra "nm") (by rfl) (by k_extra "nm") (iy := 5) rfl (fun q => decide (q.1 = mark h sk i)) prtR (fun q hq => ⟨_, tgc_name (by k_extra "lk") rfl (by k_extra "nm"), ?_⟩) ?_
    · refine eif_one ?_
      k_extra "go"
      refine ⟨lB q.1, ix_L rfl, ?_⟩
      k_extra "go"
      refine ⟨_, o_eq (shd_lB.shaped (by omega)) (shd_lB.shaped (by omega)), ?_⟩
      refine ⟨?_, rfl, fun _ => ?_⟩
      · rw [Bool.eq_iff_iff, decide_eq_true_eq]; exact eqv_lB _ _
      · k_extra "go"
    refine ⟨_, _, by k_extra "lk", rfl, ?_⟩
    dsimp only
    generalize hqs : ps.filter (fun q => decide (q.1 = mark h sk i)) = qs
    have hqp : ∀ q ∈ qs, q ∈ ps ∧ q.1 = mark h sk i := fun q hq => by rw [← hqs] at hq; have := List.mem_filter.mp hq; exact ⟨this.1, by simpa using this.2⟩
    refine sg_one (sg_ifv (δv := (List.replicate 8 .un).set 5 (.imm (.list (qs.map prtA)))) (fun K B M ad σ H p g => look_one p.sm (by intro a z; cases z) rfl ?_) no_one ?_)
    · obtain ⟨v, e1, e2⟩ := p.sm.ok 5 _ rfl
      cases e2 with
      | lst hs ha => exact ⟨_, e1, .lst (by rw [mask_nil]; exact (mask_some hs).2) (view_parts g (fun _ _ z => by cases z) (fun _ z => by cases z) qs (fun q hq => List.mem_map.mpr ⟨q, (hqp q hq).1, rfl⟩) ha)⟩
    show EtD _ _ [.un, .un, .un, .un, .un, .imm (.list (qs.map prtA)), .un, .un] _
    k_extra "go"
    refine ⟨_, o_eq ((shd_lst (shd_map hil qs)).shaped (by omega)) (shd_nil_L.shaped (by omega)), ?_⟩
    have eqn : PyData.eqv (.list (qs.map prtA)) (.list []) = true ↔ qs = [] := by
      cases qs <;> simp [PyData.eqv, PyData.eqvAll]
    refine ⟨fun hz => ?_, fun hz => ?_⟩
    · have hq0 : qs = [] := eqn.mp hz
      have hout : mark h sk i ∉ (grp (mark h sk) (upto i)).map (·.1) := by
        rw [← hps, List.map_map]
        intro hm
        obtain ⟨q, hq1, hq2⟩ := List.mem_map.mp hm
        have : q ∈ qs := by rw [← hqs]; exact List.mem_filter.mpr ⟨hq1, by rw [decide_eq_true_eq]; exact hq2⟩
        rw [hq0] at this; cases this
      refine sg_one (sg_appNew (by k_extra "lk") (by k_extra "vs") (by k_extra "lk") (by k_extra "vs") (by k_extra "lk") (by k_extra "vs") (by rw [List.length_map]; omega) fun a => ⟨_, by k_extra "lk", ?_⟩)
      dsimp only
      refine ⟨_, ?_, ps ++ [(mark h sk i, a, [(i : Int)])], ?_, ?_, rfl⟩
      · rw [List.map_append]
        k_extra "wk"
      · rw [hsn, addC_out hout, List.map_append, hps]; rfl
      · rw [List.map_append]; rfl
    · have hq0 : qs ≠ [] := fun e => by rw [eqn.mpr e] at hz; cases hz
      have hin : mark h sk i ∈ (grp (mark h sk) (upto i)).map (·.1) := by
        obtain ⟨q, hq⟩ := List.exists_mem_of_ne_nil _ hq0
        rw [← hps, List.map_map]
        exact List.mem_map.mpr ⟨q, (hqp q hq).1, (hqp q hq).2⟩
      obtain ⟨j, l, hj, hlow, hset⟩ := addC_at (c := (i : Int)) hin
      rw [← hps] at hj hlow
      rw [List.getElem?_map] at hj
      obtain ⟨q, hq, eq⟩ : ∃ q, ps[j]? = some q ∧ (q.1, q.2.2) = (mark h sk i, l) := by
        cases e : ps[j]? with
        | none => rw [e] at hj; cases hj
        | some q => rw [e] at hj; exact ⟨q, rfl, Option.some.inj hj⟩
      have eq1 : q.1 = mark h sk i := congrArg Prod.fst eq
      have eq2 : q.2.2 = l := congrArg Prod.snd eq
      obtain ⟨r, hr⟩ := filter_first (pr := fun q : Prt => decide (q.1 = mark h sk i)) hq (decide_eq_true eq1) (fun m hm y hy => decide_eq_false (hlow m hm (y.1, y.2.2) (by rw [List.getElem?_map, hy]; rfl)))
      rw [hqs] at hr
      have hll : l.length ≤ 6 := by
        have hm : ((mark h sk i, l) : List Bool × List Int) ∈ grp (mark h sk) (upto i) := by rw [← hps]; exact List.mem_map.mpr ⟨q, List.mem_of_getElem? hq, eq⟩
        have := (grp_mem _ _ _ hm).2.1
        rw [upto_len] at this
        have e : ((mark h sk i, l) : List Bool × List Int).2.length = l.length := rfl
        omega
      refine sg_one (sg_appIn (b := q.2.1) (ns := q.2.2) (j := j) ?_ (by k_extra "lk") (by k_extra "vs") (by rw [List.getElem?_map, hq]; rfl) (by rw [eq2]; omega) ?_)
      · rw [hr]
        k_extra "go"
        refine ⟨prtR q, ix_L (atI_some (j := 0) rfl rfl), ?_⟩
        k_extra "go"
        refine ⟨rawD q.2.1, ix_L rfl, ?_⟩
        k_extra "go"
      · dsimp only
        refine ⟨_, ?_, ps.set j (q.1, q.2.1, q.2.2 ++ [(i : Int)]), ?_, ?_, rfl⟩
        · rw [set_same (f := prtR) (y := (q.1, q.2.1, q.2.2 ++ [(i : Int)])) hq rfl]
          k_extra "wk"
        · rw [hsn, hset, List.map_set, hps, eq1, eq2]
        · rw [List.map_set]
  · rintro δ2 L2 ⟨ps, hps, rfl, rfl⟩
    rw [Int.toNat_natCast, rg_upto, List.length_map, upto_len] at hps
    dsimp only
    have hpl : ps.length ≤ 6 := by
      have h1 := grp_len (mark h sk) (upto h.length)
      rw [← hps, List.length_map, upto_len] at h1
      omega
    refine sg_one (sg_retv (δv := (List.replicate 8 .un).set 2 (.imm (.list (ps.map prtA)))) (fun K B M ad σ H bo hn p g => look_one p.sm p.sub rfl ?_) no_one ?_)
    · obtain ⟨e1, hM, us, e2, a2⟩ := p.sm.ok 2 _ rfl
      refine ⟨_, e1, .lst (by rw [mask_out (own_new bo hn p (by decide) (i := 2) rfl rfl)]; exact e2) (view_parts g (fun r hr z => ?_) p.sub ps (fun q hq => List.mem_map.mpr ⟨q, hq, rfl⟩) a2)⟩
      obtain ⟨o, ho⟩ := bo.tr _ z
      rw [(g.mem r hr).2.2.2] at ho; cases ho
    show EvD _ _ [.un, .un, .imm (.list (ps.map prtA)), .un, .un, .un, .un, .un] _
    refine ev_lcm prtA [("_law_part", 6)] (by k_extra "nm") (ei_list ?_)
    k_extra "go"
    refine ⟨fun q => tI q.2.2, fun q hq => ⟨_, tgc_name (by k_extra "lk") rfl (by k_extra "nm"), ?_⟩, ?_⟩
    · k_extra "go"
      refine ⟨lI q.2.2, ix_L rfl, ?_⟩
      k_extra "go"
    · show _ = PyData.list ((cls h sk).map tI)
      unfold cls clsT
      rw [← hps, List.map_map, List.map_map]; rfl
end
section
set_option autoImplicit false
/-! _law_built -/
def rBl (n : Nat) (ds : List Int) (a : Nat) (as : List D) (d : D) (a' : Nat) : Prop := ∃ h sk left w, HOk h ∧ 0 < h.length ∧ 1 ≤ w ∧ w ≤ 3 ∧ left ≠ [] ∧ left.length ≤ 6 ∧ (∀ c ∈ left, 0 ≤ c ∧ c < (h.length : Int)) ∧ as = [hD h, tI sk, tI left, .int (w : Nat), .int (n : Nat)] ∧ d = (blt ds h sk w n left a).1 ∧ a' = (blt ds h sk w n left a).2
theorem lb_tail {g : Ga} {k j1 j2 j3 n : Nat} (W : Wb g) (RM : CallOk g j1 "_law_round_makes" (BoxC 3 rRm)) (BR : CallOk g j2 "_law_breaks" (PureC 3 rBrk)) (PK : CallOk g j3 "_law_pick" (BoxC 1 rPick)) (hj1 : j1 ≤ k) (hj2 : j2 ≤ k) (hj3 : j3 ≤ k) (ih : CallOk g k "_law_built" (BoxC 5 (rBl n)))
    {ds : List Int} {a w : Nat} {h : Hist} {sk left : List Int} {c1 c2 c3 : D} (ho : HOk h) (h0 : 0 < h.length) (hw1 : 1 ≤ w) (hw : w ≤ 3) (hne : left ≠ []) (hl : left.length ≤ 6) (hrg : ∀ c ∈ left, 0 ≤ c ∧ c < (h.length : Int)) :
    SDn ⟨g, k, ["_law_box", "_law_history_here", "_law_skipped", "_law_left", "_law_w", "_law_deep", "_law_classes_here", "_law_home", "_law_alike", "_law_makes", "_law_told", "_law_rows", "_law_pattern", "_law_part", "_law_k", "_law_one", "_law_make"], defScope (top 44), true, fun _ => false⟩ 6 (List.drop 4 (defBody (top 44))) [bxS ds a, .imm (hD h), .imm (tI sk), .imm (tI left), .imm (.int w), .imm (.int (n + 1 : Nat)), .imm c1, .imm c2, .imm c3, .un, .un, .un, .un, .un, .un, .un, .un] (boxR (bltR (blt ds h sk w n) ds h sk left w a).1 ds (bltR (blt ds h sk w n) ds h sk left w a).2) := by
  have h6 := ho.len
  obtain ⟨m1, m2, m3⟩ := rmL_ok (ds := ds) (a := a) (sk := sk) h0 hw1 hw
  k_extra "go"
  refine i_callB RM (by show j1 ≤ k; omega) (by k_extra "nm") (by k_extra "lk") rfl (by k_extra "vs") ?_
  k_extra "go"
  refine ⟨_, _, _, _, _, by k_extra "lk", ⟨h, sk, w, ho, h0, hw, rfl, rfl, rfl⟩, ?_⟩
  k_extra "st"
  unfold bltR
  generalize (rmL ds a h.length sk w).1 = ms at *
  generalize (rmL ds a h.length sk w).2 = a2 at *
  refine sdn_cons (sd_setC (ev_lcm PyData.int [("_law_one", 15)] (by k_extra "nm") (ei_tup ?_)) (by k_extra "nm") rfl)
  k_extra "go"
  refine ⟨fun c => tB (pat h ms c), fun c hc => ⟨_, tgc_nameC (by k_extra "lk") rfl (by k_extra "nm") (by k_extra "nm"), ?_⟩, ?_⟩
  · k_extra "go"
    refine ev_lcm PyData.int [("_law_make", 16)] (by k_extra "nm") (ei_tup ?_)
    k_extra "go"
    refine ⟨fun m => .bool (brk h c m), fun m hm => ⟨_, tgc_name (by k_extra "lk") rfl (by k_extra "nm"), ?_⟩, ?_⟩
    · k_extra "go"
      refine i_call BR (by show j2 ≤ k; omega) (by k_extra "nm") ?_
      k_extra "go"
      exact ⟨_, ⟨h, _, _, ho, (m3 m hm).1, (m3 m hm).2, rfl, rfl⟩, rfl, rfl⟩
    k_extra "go"
    have e : (ms.map fun m => PyData.bool (brk h c m)) = (pat h ms c).map .bool := by unfold pat; rw [List.map_map]; rfl
    rw [e]
    exact ⟨rfl, rfl⟩
  k_extra "st"
  have hdl := dues_len (h := h) (left := left) (ms := ms)
  k_extra "s"
  k_extra "s"
  k_extra "a"
  k_extra "le"
  k_extra "st"
  refine sdn_cons (sd_forg (fun k : List Bool => tB k) (ei_list (i_ssB (by k_extra "nm") (by k_extra "bn") (by k_extra "nm") (by k_extra "bn") ?_)))
  k_extra "go"
  refine ⟨left.map (pat h ms), (ptT h left ms).map (·.1), by rw [List.map_map]; rfl, by rw [List.length_map]; omega, fun k hk => ?_, (grp_keys _ _).1, fun k => ?_, ?_⟩
  · obtain ⟨c, _, e⟩ := List.mem_map.mp hk
    rw [← e]
    unfold pat
    exact fun z => m1 (List.map_eq_nil_iff.mp z)
  · rw [List.mem_map (f := pat h ms)]
    exact (grp_keys (pat h ms) left).2 k
  refine ⟨_, rfl, due h left ms, rfl, fun i δ => δ = [bxS ds (((due h left ms).take i).foldl (bltP (blt ds h sk w n) h left ms) ([], a2)).2, .imm (hD h), .imm (tI sk), .imm (tI left), .imm (.int w), .imm (.int (n + 1 : Nat)), .imm c1, .imm c2, .imm c3, .imm (tI ms), .imm (.list (left.map fun c => tB (pat h ms c))), .lst (((due h left ms).take i).foldl (bltP (blt ds h sk w n) h left ms) ([], a2)).1, .un, .un, .un, .un, .un], ⟨_, by k_extra "wk", rfl⟩, ?_, ?_⟩
  · rintro i p δ2 hp rfl
    have hi := (List.getElem?_eq_some_iff.mp hp).1
    have tk : (due h left ms).take (i + 1) = (due h left ms).take i ++ [p] := by rw [List.take_succ, hp]; rfl
    have hpl := due_len (List.mem_of_getElem? hp)
    have hS : ((due h left ms).take (i + 1)).foldl (bltP (blt ds h sk w n) h left ms) ([], a2) = bltP (blt ds h sk w n) h left ms (((due h left ms).take i).foldl (bltP (blt ds h sk w n) h left ms) ([], a2)) p := by
      rw [tk, List.foldl_append]; rfl
    have hlen : ∀ (ks : List (List Bool)) (s : List D × Nat), (ks.foldl (bltP (blt ds h sk w n) h left ms) s).1.length = s.1.length + ks.length := by
      intro ks
      induction ks with
      | nil => intro s; rfl
      | cons x ks ih2 =>
        intro s
        rw [List.foldl_cons, ih2]
        unfold bltP
        simp only [List.length_append, List.length_cons, List.length_nil]
        omega
    have hlS := hlen ((due h left ms).take i) ([], a2)
    rw [List.length_take, List.length_nil] at hlS
    generalize ((due h left ms).take i).foldl (bltP (blt ds h sk w n) h left ms) ([], a2) = s at *
    refine ⟨[bxS ds s.2, .imm (hD h), .imm (tI sk), .imm (tI left), .imm (.int w), .imm (.int (n + 1 : Nat)), .imm c1, .imm c2, .imm c3, .imm (tI ms), .imm (.list (left.map fun c => tB (pat h ms c))), .lst s.1, .imm (tB p), .un, .un, .un, .un], tgd_name (by k_extra "lk") rfl (by k_extra "lo") (by k_extra "tp"), ?_⟩
    k_extra "go"
    refine ev_lcg PyData.int [("_law_k", 14)] (by k_extra "nm") ?_
    k_extra "go"
    refine ⟨by omega, by omega, upto left.length, by rw [Int.toNat_natCast, rg_upto], by rw [upto_len]; omega, fun j => decide (pat h ms (atZ left j) = p), fun j => .int (atZ left j), fun j hj => ⟨_, tgc_name (by k_extra "lk") rfl (by k_extra "nm"), ?_⟩, ?_⟩
    · have hj' := upto_mem.mp hj
      have hg := atZ_get hj'.1 hj'.2
      refine eif_one ?_
      k_extra "go"
      refine ⟨tB (pat h ms (atZ left j)), ix_L (atI_some (j := j.toNat) (by omega) (by rw [List.getElem?_map, hg]; rfl)), ?_⟩
      k_extra "go"
      refine ⟨_, o_eq (shd_tB.shaped (by omega)) (shd_tB.shaped (by omega)), ?_⟩
      refine ⟨by rw [Bool.eq_iff_iff, decide_eq_true_eq]; exact eqv_tB _ _, rfl, fun _ => ?_⟩
      k_extra "go"
      refine ⟨.int (atZ left j), ix_T (atI_some (j := j.toNat) (by omega) (by rw [List.getElem?_map, hg]; rfl)), ?_⟩
      k_extra "go"
    have hpt : ((upto left.length).filter fun j => decide (pat h ms (atZ left j) = p)).map (fun j => PyData.int (atZ left j)) = (partOf h left ms p).map .int := by
      unfold partOf
      rw [← filter_atZ left (fun c => decide (pat h ms c = p)), List.map_map]; rfl
    rw [hpt]
    have p2l : (partOf h left ms p).length ≤ 6 := Nat.le_trans (List.length_filter_le _ _) hl
    k_extra "go"
    refine i_callB ih (by show k ≤ k; omega) (by k_extra "nm") (by k_extra "lk") rfl (by k_extra "vs") ?_
    k_extra "go"
    refine ⟨_, _, _, _, _, by k_extra "lk", ⟨h, sk, partOf h left ms p, w, ho, h0, hw1, hw, part_ne (List.mem_of_getElem? hp), p2l, fun c hc => hrg c (part_mem.mp hc).1, by rw [show ((n + 1 : Nat) : Int) - 1 = (n : Nat) by omega], rfl, rfl⟩, ?_⟩
    k_extra "go"
    k_extra "sa"
    · refine ⟨_, ?_, rfl⟩
      rw [hS]
      unfold bltP
      dsimp only
      k_extra "wk"
    · omega
  · rintro δ2 rfl
    rw [List.take_length]
    refine sdn_frz (x := "_law_rows") (by k_extra "lk") (by decide) ?_
    generalize (due h left ms).foldl (bltP (blt ds h sk w n) h left ms) ([], a2) = s at *
    k_extra "go"
    refine i_callB PK (by show j3 ≤ k; omega) (by k_extra "nm") (by k_extra "lk") rfl (by k_extra "vs") ?_
    k_extra "go"
    refine ⟨_, o_repL (by decide) (by decide) (by rw [sizeLine_eq]; simp), ?_⟩
    k_extra "go"
    rotate_left
    · rw [sizeLine_eq]
      simp
    refine ⟨_, _, _, _, _, by k_extra "lk", ⟨bltL ms s.1, by simp [bltL], rfl, rfl, rfl⟩, ?_⟩
    k_extra "go"
    exact ⟨_, rfl⟩
end
section
set_option autoImplicit false
theorem w_built_step {g : Ga} {k j1 j2 j3 j4 j5 n : Nat} (W : Wb g) (RM : CallOk g j1 "_law_round_makes" (BoxC 3 rRm)) (BR : CallOk g j2 "_law_breaks" (PureC 3 rBrk)) (PK : CallOk g j3 "_law_pick" (BoxC 1 rPick)) (A : CallOk g j4 "_law_draw" (BoxC 1 rDraw)) (B : CallOk g j5 "_law_classes" (PureC 2 rLc)) (hj1 : j1 ≤ k) (hj2 : j2 ≤ k) (hj3 : j3 ≤ k) (hj4 : j4 ≤ k) (hj5 : j5 ≤ k) (ih : ∀ m, n = m + 1 → CallOk g k "_law_built" (BoxC 5 (rBl m)))
    (F : Fd g "_law_built" 44 ["_law_box", "_law_history_here", "_law_skipped", "_law_left", "_law_w", "_law_deep"]) : CallOk g (k + 1) "_law_built" (BoxC 5 (rBl n)) := by
  refine mk_box (N := ["_law_box", "_law_history_here", "_law_skipped", "_law_left", "_law_w", "_law_deep", "_law_classes_here", "_law_home", "_law_alike", "_law_makes", "_law_told", "_law_rows", "_law_pattern", "_law_part", "_law_k", "_law_one", "_law_make"]) F rfl ⟨rfl, rfl, rfl, by decide +kernel, rfl, by decide +kernel, by decide +kernel⟩ ?_
  rintro ds a as d a' - ⟨h, sk, left, w, ho, h0, hw1, hw, hne, hl, hrg, rfl, rfl, rfl⟩
  have h6 := ho.len
  have hcl : (cls h sk).length ≤ h.length := by
    have := grp_len (mark h sk) (upto h.length)
    rw [upto_len] at this
    unfold cls clsT
    rw [List.length_map]; exact this
  have hhd : left[0]? = some (left.headD 0) := by
    cases left with
    | nil => exact absurd rfl hne
    | cons x r => rfl
  have hhr := hrg (left.headD 0) (List.mem_of_getElem? hhd)
  have hhom := hom_rg (sk := sk) hhr
  have hhL := homL_ne (sk := sk) hhr
  show SDn _ _ _ [bxS ds a, .imm (hD h), .imm (tI sk), .imm (tI left), .imm (.int w), .imm (.int n), .un, .un, .un, .un, .un, .un, .un, .un, .un, .un, .un] _
  k_extra "go"
  refine i_call B hj5 (by k_extra "nm") ?_
  k_extra "go"
  refine ⟨_, ⟨h, sk, ho, rfl, rfl⟩, ?_⟩
  k_extra "st"
  refine sdn_cons (sd_set ?_ (by k_extra "lo") (by k_extra "tp"))
  refine ev_ix ?_ (by intro _ _; rfl)
  refine ev_lcg PyData.int [("_law_k", 14)] (by k_extra "nm") ?_
  k_extra "go"
  rw [List.length_map]
  refine ⟨by omega, by omega, upto (cls h sk).length, by rw [Int.toNat_natCast, rg_upto], by rw [upto_len]; omega, fun k => decide (left.headD 0 ∈ (cls h sk).getD k.toNat []), .int, fun j hj => ⟨_, tgc_name (by k_extra "lk") rfl (by k_extra "nm"), ?_⟩, ?_⟩
  · have hj' := upto_mem.mp hj
    have hg : (cls h sk)[j.toNat]? = some ((cls h sk).getD j.toNat []) := by rw [List.getD_eq_getElem?_getD, List.getElem?_eq_getElem (by omega)]; rfl
    refine eif_one ?_
    k_extra "go"
    refine ⟨.int (left.headD 0), ix_T (atI_some (j := 0) rfl (by rw [List.getElem?_map, hhd]; rfl)), ?_⟩
    k_extra "go"
    refine ⟨tI ((cls h sk).getD j.toNat []), ix_L (atI_some (j := j.toNat) (by omega) (by rw [List.getElem?_map, hg]; rfl)), ?_⟩
    k_extra "go"
    intro _
    k_extra "go"
  k_extra "go"
  refine ⟨.int (hom h sk left), ix_L (atI_some (j := 0) rfl ?_), ?_⟩
  · show ((homL h sk (left.headD 0)).map PyData.int)[0]? = _
    unfold hom
    cases e : homL h sk (left.headD 0) with
    | nil => exact absurd e hhL
    | cons x r => rfl
  k_extra "st"
  have hgh : (cls h sk)[(hom h sk left).toNat]? = some ((cls h sk).getD (hom h sk left).toNat []) := by rw [List.getD_eq_getElem?_getD, List.getElem?_eq_getElem (by omega)]; rfl
  refine sdn_cons (sd_set ?_ (by k_extra "lo") (by k_extra "tp"))
  refine ev_cmp ?_ rfl
  refine ev_lcg PyData.int [("_law_one", 15)] (by k_extra "nm") (ei_tup ?_)
  k_extra "go"
  refine ⟨fun c => !decide (c ∈ (cls h sk).getD (hom h sk left).toNat []), .int, fun c hc => ⟨_, tgc_name (by k_extra "lk") rfl (by k_extra "nm"), ?_⟩, ?_⟩
  · refine eif_one ?_
    k_extra "go"
    refine ⟨tI ((cls h sk).getD (hom h sk left).toNat []), ix_L (atI_some (j := (hom h sk left).toNat) (by omega) (by rw [List.getElem?_map, hgh]; rfl)), ?_⟩
    k_extra "go"
    intro _
    k_extra "go"
  k_extra "go"
  refine ⟨_, o_eq (shd_lI.shaped (by omega)) (shd_nil_L.shaped (by omega)), ?_⟩
  have eal : PyData.eqv (.list ((left.filter fun c => !decide (c ∈ (cls h sk).getD (hom h sk left).toNat [])).map .int)) (.list []) = bltA h sk left := by
    rw [Bool.eq_iff_iff]
    unfold bltA
    rw [← filter_all, List.length_eq_zero_iff]
    exact eqv_lI _ []
  rw [eal]
  k_extra "st"
  cases n with
  | zero =>
    k_extra "go"
    refine ⟨fun h => absurd h (by simp), fun _ => ?_⟩
    k_extra "go"
    exact ⟨_, rfl⟩
  | succ n =>
    refine sdn_cut (fun δ1 => ∃ a1, δ1 = [bxS ds a1, .imm (hD h), .imm (tI sk), .imm (tI left), .imm (.int w), .imm (.int (n + 1 : Nat)), .imm (.list ((cls h sk).map tI)), .imm (.int (hom h sk left)), .imm (.bool (bltA h sk left)), .un, .un, .un, .un, .un, .un, .un, .un] ∧ blt ds h sk w (n + 1) left a = bltR (blt ds h sk w n) ds h sk left w a1) ?_ ?_
    · have hb : blt ds h sk w (n + 1) left a = if bltA h sk left = true then (if 0 < drw ds a 4 then (bltF h sk left, a + 1) else bltS (blt ds h sk w n) ds h sk left w (a + 1)) else bltS (blt ds h sk w n) ds h sk left w a := rfl
      rw [hb]
      generalize hA : bltA h sk left = al
      k_extra "go"
      refine ⟨fun _ => ?_, fun h => absurd h (by simp; omega)⟩
      k_extra "go"
      refine ⟨fun ha => ?_, fun ha => ⟨fun _ => ?_, fun z => (by cases z)⟩⟩
      · subst ha
        rw [if_pos rfl]
        k_extra "go"
        refine i_callB A hj4 (by k_extra "nm") (by k_extra "lk") rfl (by k_extra "vs") ?_
        k_extra "go"
        refine ⟨_, _, _, _, _, by k_extra "lk", ⟨4, by omega, rfl, rfl, rfl⟩, ?_⟩
        k_extra "go"
        refine ⟨fun h4 => ?_, fun h4 => ?_⟩
        rotate_left
        · have h4' : 0 < drw ds a 4 := by simpa using h4
          rw [if_pos h4']
          k_extra "go"
          exact ⟨_, rfl⟩
        have h4' : ¬ 0 < drw ds a 4 := by simpa using h4
        rw [if_neg h4']
        k_extra "go"
        refine i_callB A hj4 (by k_extra "nm") (by k_extra "lk") rfl (by k_extra "vs") ?_
        k_extra "go"
        refine ⟨_, _, _, _, _, by k_extra "lk", ⟨12, by omega, rfl, rfl, rfl⟩, ?_⟩
        k_extra "go"
        refine ⟨fun h9 => ?_, fun h9 => ?_⟩
        · have h' : drw ds (a + 1) 12 = 0 := by simpa using h9
          have e : bltS (blt ds h sk w n) ds h sk left w (a + 1) = (bltF h sk left, (a + 1) + 1) := if_pos h'
          rw [e]
          k_extra "go"
          exact ⟨_, rfl⟩
        · have h' : ¬ drw ds (a + 1) 12 = 0 := by simpa using h9
          have e : bltS (blt ds h sk w n) ds h sk left w (a + 1) = bltR (blt ds h sk w n) ds h sk left w ((a + 1) + 1) := if_neg h'
          rw [e]
          k_extra "go"
      · subst ha
        rw [if_neg Bool.false_ne_true]
        k_extra "go"
        refine i_callB A hj4 (by k_extra "nm") (by k_extra "lk") rfl (by k_extra "vs") ?_
        k_extra "go"
        refine ⟨_, _, _, _, _, by k_extra "lk", ⟨12, by omega, rfl, rfl, rfl⟩, ?_⟩
        k_extra "go"
        refine ⟨fun h9 => ?_, fun h9 => ?_⟩
        · have h' : drw ds a 12 = 0 := by simpa using h9
          have e : bltS (blt ds h sk w n) ds h sk left w a = (bltF h sk left, a + 1) := if_pos h'
          rw [e]
          k_extra "go"
          exact ⟨_, rfl⟩
        · have h' : ¬ drw ds a 12 = 0 := by simpa using h9
          have e : bltS (blt ds h sk w n) ds h sk left w a = bltR (blt ds h sk w n) ds h sk left w (a + 1) := if_neg h'
          rw [e]
          k_extra "go"
    · rintro δ1 ⟨a1, rfl, hb⟩
      rw [hb]
      exact lb_tail W RM BR PK hj1 hj2 hj3 (ih n rfl) ho h0 hw1 hw hne hl hrg
theorem w_built {g : Ga} {k j1 j2 j3 j4 j5 : Nat} (W : Wb g) (RM : CallOk g j1 "_law_round_makes" (BoxC 3 rRm)) (BR : CallOk g j2 "_law_breaks" (PureC 3 rBrk)) (PK : CallOk g j3 "_law_pick" (BoxC 1 rPick)) (A : CallOk g j4 "_law_draw" (BoxC 1 rDraw)) (B : CallOk g j5 "_law_classes" (PureC 2 rLc)) (hj1 : j1 ≤ k) (hj2 : j2 ≤ k) (hj3 : j3 ≤ k) (hj4 : j4 ≤ k) (hj5 : j5 ≤ k)
    (F : Fd g "_law_built" 44 ["_law_box", "_law_history_here", "_law_skipped", "_law_left", "_law_w", "_law_deep"]) : ∀ n, CallOk g (k + n + 1) "_law_built" (BoxC 5 (rBl n)) := by
  intro n
  induction n with
  | zero => exact w_built_step W RM BR PK A B hj1 hj2 hj3 hj4 hj5 (fun m h => by omega) F
  | succ n ih =>
    refine w_built_step W RM BR PK A B (by omega) (by omega) (by omega) (by omega) (by omega) (fun m h => ?_) F
    have e : m = n := by omega
    subst e
    exact ih
end
section
/-! ### tests, choices_of, heads_of, useful_makes, class_of -/
theorem cls_mem {h : Hist} {sk : List Int} {l : List Int} (hl : l ∈ cls h sk) : l ≠ [] ∧ l.length ≤ h.length ∧ ∀ c ∈ l, 0 ≤ c ∧ c < (h.length : Int) := by
  obtain ⟨p, hp, e⟩ := List.mem_map.mp hl
  obtain ⟨q1, q2, q3⟩ := grp_mem _ _ p hp
  subst e
  exact ⟨q1, by rwa [upto_len] at q2, fun c hc => upto_mem.mp (q3 c hc).1⟩
theorem cls_len {h : Hist} {sk : List Int} : (cls h sk).length ≤ h.length := by
  unfold cls
  rw [List.length_map]
  exact Nat.le_trans (grp_len _ _) (by rw [upto_len]; exact Nat.le_refl _)
theorem tst_len {h : Hist} {sk : List Int} : (tst h sk).length ≤ h.length := Nat.le_trans (List.length_filter_le _ _) (by rw [upto_len]; exact Nat.le_refl _)
def rTs (ds : List D) (d : D) : Prop := ∃ h sk, HOk h ∧ ds = [hD h, tI sk] ∧ d = tI (tsts h sk)
theorem tsStep_len {h : Hist} {cs : List (List Int)} : ∀ (ms : List Int) (s : List (List Int) × List Int), (ms.foldl (tsStep h cs) s).1.length ≤ s.1.length + ms.length ∧ (ms.foldl (tsStep h cs) s).2.length ≤ s.2.length + ms.length
  | [], s => by simp
  | m :: ms, s => by
    have ih := tsStep_len (h := h) (cs := cs) ms (tsStep h cs s m)
    have : (tsStep h cs s m).1.length ≤ s.1.length + 1 ∧ (tsStep h cs s m).2.length ≤ s.2.length + 1 := by
      unfold tsStep
      split <;> simp
    rw [List.foldl_cons, List.length_cons]
    omega
theorem tsts_len {h : Hist} {sk : List Int} : (tsts h sk).length ≤ h.length := by
  have := (tsStep_len (h := h) (cs := cls h sk) (tst h sk) ([], [])).2
  have := tst_len (h := h) (sk := sk)
  unfold tsts
  simp only [List.length_nil] at *
  omega
theorem w_tests {g : Ga} {k j1 j2 j3 : Nat} (W : Wb g) (A : CallOk g j1 "classes" (PureC 2 rCls)) (B : CallOk g j2 "testable" (PureC 2 rTst)) (C : CallOk g j3 "broken_by" (PureC 3 rBby)) (hj1 : j1 ≤ k) (hj2 : j2 ≤ k) (hj3 : j3 ≤ k) (F : Fd g "tests" 9 ["history", "skipped"]) : CallOk g (k + 1) "tests" (PureC 2 rTs) := by
  refine mk_pure (N := ["history", "skipped", "found", "rows", "makes", "m", "row"]) F ⟨rfl, rfl, rfl, by decide +kernel, rfl, by decide +kernel, by decide +kernel⟩ ?_
  rintro ds d - ⟨h, sk, ho, rfl, rfl⟩
  have h6 := ho.len
  have hl := tst_len (h := h) (sk := sk)
  have hcl := cls_len (h := h) (sk := sk)
  show SDn _ _ _ [.imm (hD h), .imm (tI sk), .un, .un, .un, .un, .un] _
  k_extra "s"
  k_extra "s"
  refine i_call A hj1 (by k_extra "nm") ?_
  k_extra "go"
  refine ⟨_, ⟨h, sk, ho, rfl, rfl⟩, ?_⟩
  k_extra "go"
  refine sd_forg PyData.int (ei_list ?_)
  refine i_call B hj2 (by k_extra "nm") ?_
  k_extra "go"
  refine ⟨_, ⟨h, sk, ho, rfl, rfl⟩, ?_⟩
  k_extra "go"
  refine ⟨fun i δ => δ = [.imm (hD h), .imm (tI sk), .imm (.tuple ((cls h sk).map tI)), .lst ((((tst h sk).take i).foldl (tsStep h (cls h sk)) ([], [])).1.map fun l => lI l), .lst ((((tst h sk).take i).foldl (tsStep h (cls h sk)) ([], [])).2.map .int), .un, .un], ⟨_, by k_extra "wk", rfl⟩, ?_, ?_⟩
  · rintro i m δ2 hm rfl
    have hmm := tst_mem (List.mem_of_getElem? hm)
    have hil := (List.getElem?_eq_some_iff.mp hm).1
    have tk : (tst h sk).take (i + 1) = (tst h sk).take i ++ [m] := by rw [List.take_succ, hm]; rfl
    have hsl := tsStep_len (h := h) (cs := cls h sk) ((tst h sk).take i) ([], [])
    rw [List.length_take] at hsl
    simp only [List.length_nil] at hsl
    have hf : ((tst h sk).take (i + 1)).foldl (tsStep h (cls h sk)) ([], []) = tsStep h (cls h sk) (((tst h sk).take i).foldl (tsStep h (cls h sk)) ([], [])) m := by rw [tk, List.foldl_append, List.foldl_cons, List.foldl_nil]
    generalize ((tst h sk).take i).foldl (tsStep h (cls h sk)) ([], []) = s at *
    have no : (¬ (0 < (bby h (cls h sk) m).length ∧ (bby h (cls h sk) m).length < (cls h sk).length ∧ bby h (cls h sk) m ∉ s.1)) → ((tst h sk).take (i + 1)).foldl (tsStep h (cls h sk)) ([], []) = s := fun z => by rw [hf]; exact if_neg z
    refine ⟨[.imm (hD h), .imm (tI sk), .imm (.tuple ((cls h sk).map tI)), .lst (s.1.map fun l => lI l), .lst (s.2.map .int), .imm (.int m), .un], tgd_name (by k_extra "lk") rfl (by k_extra "lo") (by k_extra "tp"), ?_⟩
    k_extra "s"
    k_extra "s"
    refine i_call C hj3 (by k_extra "nm") ?_
    k_extra "go"
    refine ⟨_, ⟨h, cls h sk, m, ho, hmm.1, hmm.2, by omega, fun l hl => (cls_mem hl).1, rfl, rfl⟩, ?_⟩
    k_extra "go"
    try rw [List.length_map]
    refine ⟨fun h1 => ?_, fun h1 => ?_⟩
    · k_extra "go"
      refine ⟨_, ?_, rfl⟩
      rw [no (fun z => by have := of_decide_eq_false h1; omega)]
      k_extra "wk"
    · k_extra "go"
      try rw [List.length_map]
      refine ⟨fun h2 => ?_, fun h2 => ?_⟩
      · k_extra "go"
        · exact shd_lI.shaped (by omega)
        · exact (shd_lst (shd_map (fun b => shd_lI) s.1)).shaped (by omega)
        refine ⟨fun h3 => ?_, fun h3 => ?_⟩
        · k_extra "go"
          have h3' := any_eqvN (c := fun l => lI l) eqv_lI (by simpa using h3)
          have yes : ((tst h sk).take (i + 1)).foldl (tsStep h (cls h sk)) ([], []) = (s.1 ++ [bby h (cls h sk) m], s.2 ++ [m]) := by rw [hf]; exact if_pos ⟨by have := of_decide_eq_true h1; omega, by have := of_decide_eq_true h2; omega, h3'⟩
          k_extra "sa"
          · k_extra "go"
            k_extra "sa"
            · k_extra "go"
              refine ⟨_, ?_, rfl⟩
              rw [yes, List.map_append, List.map_append]
              k_extra "wk"
            · rw [List.length_map]; omega
          · rw [List.length_map]; omega
        · k_extra "go"
          refine ⟨_, ?_, rfl⟩
          rw [no (fun z => by simp at h3; exact z.2.2 ((any_eqv (c := fun l => lI l) eqv_lI).mp (by simpa using h3)))]
          k_extra "wk"
      · k_extra "go"
        refine ⟨_, ?_, rfl⟩
        rw [no (fun z => by have := of_decide_eq_false h2; omega)]
        k_extra "wk"
  · rintro δ2 rfl
    rw [List.take_length]
    k_extra "go"
    all_goals rfl
/-! choices_of -/
def rCho (K : Nat) (ds : List D) (d : D) : Prop := ∃ ns m, m ≤ K ∧ ns.length ≤ 6 ∧ ds = [tI ns, .int (m : Nat)] ∧ d = .list ((cho m ns).map tI)
theorem cut_from {α : Type} {xs : List α} {i : Int} {p : Nat} (e : i = p) : cutD xs (some i) none = xs.drop p := by
  subst e
  unfold cutD
  rw [HT.sIx_nat, HT.sIx_none]
  by_cases h : p ≤ xs.length
  · rw [Nat.min_eq_left h]
    exact List.take_of_length_le (by rw [List.length_drop]; exact Nat.le_refl _)
  · rw [Nat.min_eq_right (by omega), List.drop_length, List.drop_of_length_le (by omega), List.take_nil]
theorem cho_mem : ∀ {k : Nat} {ns r : List Int}, ns.length ≤ 6 → r ∈ cho k ns → r.length = k ∧ ∀ x ∈ r, x ∈ ns
  | 0, ns, r, _, h => by
    simp only [cho, List.mem_singleton] at h
    subst h
    simp
  | k + 1, ns, r, hl, h => by
    unfold cho at h
    obtain ⟨p, hp, h⟩ := List.mem_flatMap.mp h
    unfold choP at h
    obtain ⟨q, hq, e⟩ := List.mem_map.mp h
    subst e
    obtain ⟨h1, h2⟩ := cho_mem (ns := ns.drop (p + 1)) (by rw [List.length_drop]; omega) hq
    have hp' : p < ns.length := List.mem_range.mp hp
    refine ⟨by rw [List.length_cons, h1], fun x hx => ?_⟩
    rcases List.mem_cons.mp hx with hx | hx
    · subst hx
      rw [List.getD_eq_getElem?_getD, List.getElem?_eq_getElem hp']
      exact List.getElem_mem hp'
    · exact List.mem_of_mem_drop (h2 x hx)
theorem w_choices {g : Ga} {k : Nat} (W : Wb g) (F : Fd g "choices_of" 13 ["things", "many"]) : ∀ K, K ≤ 3 → CallOk g (k + K + 1) "choices_of" (PureC 2 (rCho K)) := by
  intro K
  induction K with
  | zero =>
    intro _
    refine mk_pure (N := ["things", "many", "found", "place", "rest"]) F ⟨rfl, rfl, rfl, by decide +kernel, rfl, by decide +kernel, by decide +kernel⟩ ?_
    rintro ds d - ⟨ns, m, hm, hl, rfl, rfl⟩
    have m0 : m = 0 := by omega
    subst m0
    show SDn _ _ _ [.imm (tI ns), .imm (.int (0 : Nat)), .un, .un, .un] _
    k_extra "go"
    refine ⟨fun h1 => ?_, fun h1 => absurd h1 (by simp)⟩
    k_extra "go"
    all_goals rfl
  | succ K ih =>
    intro hK
    have A := ih (by omega)
    refine mk_pure (N := ["things", "many", "found", "place", "rest"]) F ⟨rfl, rfl, rfl, by decide +kernel, rfl, by decide +kernel, by decide +kernel⟩ ?_
    rintro ds d - ⟨ns, m, hm, hl, rfl, rfl⟩
    show SDn _ _ _ [.imm (tI ns), .imm (.int m), .un, .un, .un] _
    k_extra "go"
    refine ⟨fun h1 => ?_, fun h1 => ?_⟩
    · have m0 : m = 0 := by simpa using h1
      subst m0
      k_extra "go"
      all_goals rfl
    · have m0 : m ≠ 0 := fun z => by subst z; simp at h1
      obtain ⟨m, rfl⟩ : ∃ n, m = n + 1 := ⟨m - 1, by omega⟩
      k_extra "go"
      refine sd_forg PyData.int ?_
      k_extra "go"
      refine ⟨by omega, by omega, upto ns.length, by rw [Int.toNat_natCast, rg_upto], fun i δ => δ = [.imm (tI ns), .imm (.int (m + 1 : Nat)), .lst (((List.range i).flatMap (choP ns (cho m))).map tI), .un, .un], ⟨_, by k_extra "wk", rfl⟩, ?_, ?_⟩
      · rintro i x δ2 hx rfl
        obtain ⟨hi, rfl⟩ := upto_get hx
        have hd : (ns.drop (i + 1)).length ≤ 6 := by rw [List.length_drop]; omega
        have hcl := cho_len m (ns.drop (i + 1)) hd
        have hfl := flat_len (f := choP ns (cho m)) (b := 6 ^ m) (fun p => by rw [choP_len]; exact cho_len m _ (by rw [List.length_drop]; omega)) i
        have hpw : 6 ^ m ≤ 6 ^ 2 := Nat.pow_le_pow_right (by omega) (by omega)
        have h36 : i * 6 ^ m ≤ 6 * 36 := Nat.mul_le_mul (by omega) hpw
        refine ⟨[.imm (tI ns), .imm (.int (m + 1 : Nat)), .lst (((List.range i).flatMap (choP ns (cho m))).map tI), .imm (.int i), .un], tgd_name (by k_extra "lk") rfl (by k_extra "lo") (by k_extra "tp"), ?_⟩
        k_extra "s"
        refine sd_forg tI (ei_list ?_)
        refine i_call A (by show k + K + 1 ≤ k + (K + 1); omega) (by k_extra "nm") ?_
        k_extra "go"
        refine ⟨_, sl_T (by rw [cut_from (p := i + 1) (by omega), ← List.map_drop]), ?_⟩
        k_extra "go"
        refine ⟨_, ⟨ns.drop (i + 1), m, by omega, hd, by rw [show ((m + 1 : Nat) : Int) - 1 = m by omega], rfl⟩, ?_⟩
        k_extra "go"
        refine ⟨fun j δ => δ = [.imm (tI ns), .imm (.int (m + 1 : Nat)), .lst (((List.range i).flatMap (choP ns (cho m)) ++ (((cho m (ns.drop (i + 1))).take j).map fun r => ns.getD i 0 :: r)).map tI), .imm (.int i), .un], ⟨_, ?_, rfl⟩, ?_, ?_⟩
        · rw [List.take_zero, List.map_nil, List.append_nil]
          k_extra "wk"
        · rintro j r δ2 hr rfl
          refine ⟨[.imm (tI ns), .imm (.int (m + 1 : Nat)), .lst (((List.range i).flatMap (choP ns (cho m)) ++ (((cho m (ns.drop (i + 1))).take j).map fun r => ns.getD i 0 :: r)).map tI), .imm (.int i), .imm (tI r)], tgd_name (by k_extra "lk") rfl (by k_extra "lo") (by k_extra "tp"), ?_⟩
          k_extra "go"
          refine ⟨.int (ns.getD i 0), ix_T (atI_some (j := i) rfl (by rw [List.getElem?_map, List.getD_eq_getElem?_getD, List.getElem?_eq_getElem hi]; rfl)), ?_⟩
          k_extra "go"
          · have := cho_mem hd (List.mem_of_getElem? hr)
            rw [sizeLine_eq, List.length_map]
            simp only [List.length_singleton]
            omega
          k_extra "sa"
          · k_extra "go"
            refine ⟨_, ?_, rfl⟩
            have tk : (cho m (ns.drop (i + 1))).take (j + 1) = (cho m (ns.drop (i + 1))).take j ++ [r] := by rw [List.take_succ, hr]; rfl
            have el : ∀ (a b : List (List Int)) (x : Int), (a ++ (b ++ [r]).map fun r => x :: r).map tI = (a ++ b.map fun r => x :: r).map tI ++ [tI (x :: r)] := fun a b x => by simp
            rw [tk, el]
            k_extra "wk"
          · rw [List.length_map, List.length_append, List.length_map, List.length_take]
            omega
        · rintro δ2 rfl
          refine ⟨_, ?_, rfl⟩
          rw [List.take_length, List.range_succ, List.flatMap_append, show List.flatMap (choP ns (cho m)) [i] = choP ns (cho m) i by simp]
          k_extra "wk"
      · rintro δ2 rfl
        rw [upto_len]
        refine sdn_retO (by k_extra "lk") (by k_extra "vs") (by decide) ?_
        rfl
end
section
def rHe (ds : List D) (d : D) : Prop := ∃ h sk, HOk h ∧ ds = [hD h, tI sk] ∧ d = tI (heads h sk)
theorem w_heads {g : Ga} {k j1 : Nat} (W : Wb g) (A : CallOk g j1 "classes" (PureC 2 rCls)) (hj1 : j1 ≤ k) (F : Fd g "heads_of" 14 ["history", "skipped"]) : CallOk g (k + 1) "heads_of" (PureC 2 rHe) := by
  refine mk_pure (N := ["history", "skipped", "rows", "row"]) F ⟨rfl, rfl, rfl, by decide +kernel, rfl, by decide +kernel, by decide +kernel⟩ ?_
  rintro ds d - ⟨h, sk, ho, rfl, rfl⟩
  have h6 := ho.len
  have hcl := cls_len (h := h) (sk := sk)
  show SDn _ _ _ [.imm (hD h), .imm (tI sk), .un, .un] _
  k_extra "s"
  k_extra "s"
  refine i_call A hj1 (by k_extra "nm") ?_
  k_extra "go"
  refine ⟨_, ⟨h, sk, ho, rfl, rfl⟩, ?_⟩
  k_extra "go"
  refine ev_gint (by k_extra "nm") W.mc ?_
  k_extra "go"
  rw [List.length_map]
  refine ⟨fun h1 => ?_, fun h1 => ?_⟩
  · have := of_decide_eq_true h1
    exact absurd this (by omega)
  · k_extra "go"
    refine ev_lcm tI [("row", 3)] (by k_extra "nm") (ei_tup ?_)
    k_extra "go"
    refine ⟨fun l => .int (l.headD 0), fun l hl => ⟨_, tgc_name (by k_extra "lk") rfl (by k_extra "nm"), ?_⟩, ?_⟩
    · k_extra "go"
      refine ⟨_, ix_T (atI_some (j := 0) rfl (by rw [List.getElem?_map, headD_get (cls_mem hl).1]; rfl)), ?_⟩
      k_extra "go"
    · k_extra "go"
      show _ = _
      unfold heads
      rw [tI, List.map_map]
      rfl
def rUm (ds : List D) (d : D) : Prop := ∃ h sk left, HOk h ∧ left.length ≤ 6 ∧ ds = [hD h, tI sk, tI left] ∧ d = tI (usef h sk left)
theorem umStep_len {h : Hist} {left : List Int} : ∀ (ms : List Int) (s : List (List Int) × List Int), (ms.foldl (umStep h left) s).1.length ≤ s.1.length + ms.length ∧ (ms.foldl (umStep h left) s).2.length ≤ s.2.length + ms.length
  | [], s => by simp
  | m :: ms, s => by
    have ih := umStep_len (h := h) (left := left) ms (umStep h left s m)
    have : (umStep h left s m).1.length ≤ s.1.length + 1 ∧ (umStep h left s m).2.length ≤ s.2.length + 1 := by
      unfold umStep
      split <;> simp
    rw [List.foldl_cons, List.length_cons]
    omega
theorem tsStep_mem {h : Hist} {cs : List (List Int)} {x : Int} : ∀ (ms : List Int) (s : List (List Int) × List Int), x ∈ (ms.foldl (tsStep h cs) s).2 → x ∈ s.2 ∨ x ∈ ms
  | [], s, hx => .inl hx
  | m :: ms, s, hx => by
    rw [List.foldl_cons] at hx
    rcases tsStep_mem ms _ hx with hx | hx
    · unfold tsStep at hx
      split at hx
      · rcases List.mem_append.mp hx with hx | hx
        · exact .inl hx
        · exact .inr (List.mem_cons.mpr (.inl (by simpa using hx)))
      · exact .inl hx
    · exact .inr (List.mem_cons_of_mem _ hx)
theorem tsts_mem {h : Hist} {sk : List Int} {m : Int} (hm : m ∈ tsts h sk) : m ∈ tst h sk := by
  rcases tsStep_mem _ _ hm with hm | hm
  · simp at hm
  · exact hm
theorem w_useful {g : Ga} {k j1 j2 : Nat} (W : Wb g) (A : CallOk g j1 "ancestors" (PureC 2 rAnc)) (B : CallOk g j2 "tests" (PureC 2 rTs)) (hj1 : j1 ≤ k) (hj2 : j2 ≤ k) (F : Fd g "useful_makes" 15 ["history", "skipped", "left"]) : CallOk g (k + 1) "useful_makes" (PureC 3 rUm) := by
  refine mk_pure (N := ["history", "skipped", "left", "found", "parts", "make", "part", "candidate"]) F ⟨rfl, rfl, rfl, by decide +kernel, rfl, by decide +kernel, by decide +kernel⟩ ?_
  rintro ds d - ⟨h, sk, left, ho, hle, rfl, rfl⟩
  have h6 := ho.len
  have hl := tsts_len (h := h) (sk := sk)
  show SDn _ _ _ [.imm (hD h), .imm (tI sk), .imm (tI left), .un, .un, .un, .un, .un] _
  k_extra "go"
  refine sd_forg PyData.int (ei_tup ?_)
  refine i_call B hj2 (by k_extra "nm") ?_
  k_extra "go"
  refine ⟨_, ⟨h, sk, ho, rfl, rfl⟩, ?_⟩
  k_extra "go"
  refine ⟨fun i δ => δ = [.imm (hD h), .imm (tI sk), .imm (tI left), .lst ((((tsts h sk).take i).foldl (umStep h left) ([], [])).2.map .int), .lst ((((tsts h sk).take i).foldl (umStep h left) ([], [])).1.map tI), .un, .un, .un], ⟨_, by k_extra "wk", rfl⟩, ?_, ?_⟩
  · rintro i m δ2 hm rfl
    have hmm := tst_mem (tsts_mem (List.mem_of_getElem? hm))
    have hil := (List.getElem?_eq_some_iff.mp hm).1
    have tk : (tsts h sk).take (i + 1) = (tsts h sk).take i ++ [m] := by rw [List.take_succ, hm]; rfl
    have hsl := umStep_len (h := h) (left := left) ((tsts h sk).take i) ([], [])
    rw [List.length_take] at hsl
    simp only [List.length_nil] at hsl
    have hf : ((tsts h sk).take (i + 1)).foldl (umStep h left) ([], []) = umStep h left (((tsts h sk).take i).foldl (umStep h left) ([], [])) m := by rw [tk, List.foldl_append, List.foldl_cons, List.foldl_nil]
    generalize ((tsts h sk).take i).foldl (umStep h left) ([], []) = s at *
    have no : (¬ (0 < (prt h left m).length ∧ (prt h left m).length < left.length ∧ prt h left m ∉ s.1)) → ((tsts h sk).take (i + 1)).foldl (umStep h left) ([], []) = s := fun z => by rw [hf]; exact if_neg z
    refine ⟨[.imm (hD h), .imm (tI sk), .imm (tI left), .lst (s.2.map .int), .lst (s.1.map tI), .imm (.int m), .un, .un], tgd_name (by k_extra "lk") rfl (by k_extra "lo") (by k_extra "tp"), ?_⟩
    k_extra "go"
    refine ev_lcg PyData.int [("candidate", 7)] (by k_extra "nm") (ei_tup ?_)
    k_extra "go"
    refine ⟨fun c => brk h c m, .int, fun x hx => ⟨_, tgc_name (by k_extra "lk") rfl (by k_extra "nm"), ?_⟩, ?_⟩
    · refine eif_one ?_
      k_extra "go"
      refine i_call A hj1 (by k_extra "nm") ?_
      k_extra "go"
      refine ⟨_, ⟨h, m, ho, hmm.1, hmm.2, rfl, rfl⟩, ?_⟩
      k_extra "go"
      intro _
      k_extra "go"
    rw [show (left.filter fun c => brk h c m) = prt h left m from rfl]
    k_extra "go"
    refine ⟨fun h1 => ?_, fun h1 => ?_⟩
    · k_extra "go"
      refine ⟨_, ?_, rfl⟩
      rw [no (fun z => by have := of_decide_eq_false h1; omega)]
      k_extra "wk"
    · k_extra "go"
      refine ⟨fun h2 => ?_, fun h2 => ?_⟩
      · k_extra "go"
        · exact shd_tI.shaped (by omega)
        · exact (shd_lst (shd_map (fun b => shd_tI) s.1)).shaped (by omega)
        refine ⟨fun h3 => ?_, fun h3 => ?_⟩
        · k_extra "go"
          have h3' := any_eqvN (c := tI) eqv_tI (by simpa using h3)
          have yes : ((tsts h sk).take (i + 1)).foldl (umStep h left) ([], []) = (s.1 ++ [prt h left m], s.2 ++ [m]) := by rw [hf]; exact if_pos ⟨by have := of_decide_eq_true h1; omega, by have := of_decide_eq_true h2; omega, h3'⟩
          k_extra "sa"
          · k_extra "go"
            k_extra "sa"
            · k_extra "go"
              refine ⟨_, ?_, rfl⟩
              rw [yes, List.map_append, List.map_append]
              k_extra "wk"
            · rw [List.length_map]; omega
          · rw [List.length_map]; omega
        · k_extra "go"
          refine ⟨_, ?_, rfl⟩
          rw [no (fun z => by simp at h3; exact z.2.2 ((any_eqv (c := tI) eqv_tI).mp (by simpa using h3)))]
          k_extra "wk"
      · k_extra "go"
        refine ⟨_, ?_, rfl⟩
        rw [no (fun z => by have := of_decide_eq_false h2; omega)]
        k_extra "wk"
  · rintro δ2 rfl
    rw [List.take_length]
    k_extra "go"
    all_goals rfl
def rCo (ds : List D) (d : D) : Prop := ∃ rows c, rows.length ≤ 6 ∧ ds = [.tuple (rows.map tI), .int c] ∧ d = .int (clsOf rows c)
theorem w_class_of {g : Ga} {k : Nat} (W : Wb g) (F : Fd g "class_of" 18 ["rows", "candidate"]) : CallOk g (k + 1) "class_of" (PureC 2 rCo) := by
  refine mk_pure (N := ["rows", "candidate", "number"]) F ⟨rfl, rfl, rfl, by decide +kernel, rfl, by decide +kernel, by decide +kernel⟩ ?_
  rintro ds d - ⟨rows, c, hl, rfl, rfl⟩
  show SDn _ _ _ [.imm (.tuple (rows.map tI)), .imm (.int c), .un] _
  k_extra "s"
  refine sd_forg PyData.int ?_
  k_extra "go"
  rw [List.length_map]
  refine ⟨by omega, by omega, upto rows.length, by rw [Int.toNat_natCast, rg_upto], fun i δ => δ = [.imm (.tuple (rows.map tI)), .imm (.int c), .un] ∧ ∀ j, j < i → ∀ l, rows[j]? = some l → c ∉ l, ⟨_, by k_extra "wk", rfl, fun j hj => absurd hj (Nat.not_lt_zero _)⟩, ?_, ?_⟩
  · rintro i x δ2 hx ⟨rfl, hno⟩
    obtain ⟨hi, rfl⟩ := upto_get hx
    obtain ⟨l, hl'⟩ : ∃ l, rows[i]? = some l := ⟨_, List.getElem?_eq_getElem hi⟩
    refine ⟨[.imm (.tuple (rows.map tI)), .imm (.int c), .imm (.int i)], tgd_name (by k_extra "lk") rfl (by k_extra "lo") (by k_extra "tp"), ?_⟩
    k_extra "go"
    refine ⟨tI l, ix_T (atI_some (j := i) rfl (by rw [List.getElem?_map, hl']; rfl)), ?_⟩
    k_extra "go"
    refine ⟨fun h1 => ?_, fun h1 => ?_⟩
    · k_extra "go"
      show _ = _
      have : rows.findIdx? (fun l => decide (c ∈ l)) = some i := by
        rw [List.findIdx?_eq_some_iff_getElem]
        refine ⟨hi, by rw [List.getElem?_eq_getElem hi] at hl'; rw [Option.some.inj hl']; exact h1, fun j hj => ?_⟩
        have := hno j hj _ (List.getElem?_eq_getElem (by omega))
        simpa using this
      unfold clsOf
      rw [this]
    · k_extra "go"
      refine ⟨_, by k_extra "wk", rfl, fun j hj l2 hl2 => ?_⟩
      by_cases e : j = i
      · subst e
        rw [hl'] at hl2
        rw [← Option.some.inj hl2]
        exact of_decide_eq_false h1
      · exact hno j (by omega) l2 hl2
  · rintro δ2 ⟨rfl, hno⟩
    k_extra "go"
    show _ = _
    have : rows.findIdx? (fun l => decide (c ∈ l)) = none := by
      rw [List.findIdx?_eq_none_iff]
      intro l hl2
      obtain ⟨j, hj, e⟩ := List.mem_iff_getElem.mp hl2
      have := hno j (by rw [upto_len]; exact hj) l (by rw [List.getElem?_eq_getElem hj, e])
      simpa using this
    unfold clsOf
    rw [this]
end
section
def rIs (ds : List D) (d : D) : Prop := ∃ x, NoD x ∧ ds = [x] ∧ d = .bool (isInt x)
theorem w_is_integer {g : Ga} {k : Nat} (W : Wb g) (F : Fd g "is_integer" 22 ["thing"]) : CallOk g (k + 1) "is_integer" (PureC 1 rIs) := by
  refine mk_pure (N := ["thing"]) F ⟨rfl, rfl, rfl, by decide +kernel, rfl, by decide +kernel, by decide +kernel⟩ ?_
  rintro ds d - ⟨x, hx, rfl, rfl⟩
  show SDn _ _ _ [.imm x] _
  k_extra "go"
  refine ⟨hx, ?_⟩
  k_extra "go"
  refine ⟨fun h1 => ?_, fun h1 => ?_⟩
  · k_extra "go"
    refine ⟨hx, ?_⟩
    k_extra "go"
    rw [← isInt_and, h1, Bool.true_and]
  · k_extra "go"
    rw [← isInt_and, h1, Bool.false_and]
theorem w_law_is_int {g : Ga} {k : Nat} (W : Wb g) (F : Fd g "_law_is_int" 38 ["_law_thing"]) : CallOk g (k + 1) "_law_is_int" (PureC 1 rIs) := by
  refine mk_pure (N := ["_law_thing"]) F ⟨rfl, rfl, rfl, by decide +kernel, rfl, by decide +kernel, by decide +kernel⟩ ?_
  rintro ds d - ⟨x, hx, rfl, rfl⟩
  show SDn _ _ _ [.imm x] _
  k_extra "go"
  refine ⟨hx, ?_⟩
  k_extra "go"
  refine ⟨fun h1 => ?_, fun h1 => ?_⟩
  · k_extra "go"
    refine ⟨hx, ?_⟩
    k_extra "go"
    rw [← isInt_and, h1, Bool.true_and]
  · k_extra "go"
    rw [← isInt_and, h1, Bool.false_and]
/-! are_makes -/
def okMs (n : Nat) (sk : List Int) (b : Int) : List D → Bool
  | [] => true
  | .int m :: r => decide (b < m ∧ m < (n : Int) ∧ m ∉ sk) && okMs n sk m r
  | _ :: _ => false
def areM (n : Nat) (sk : List Int) (w : Int) : D → Bool
  | .tuple ds => decide (1 ≤ ds.length ∧ (ds.length : Int) ≤ w) && okMs n sk (-1) ds
  | _ => false
theorem areM_no {n : Nat} {sk : List Int} {w : Int} {d : D} (h : isTup d = false) : areM n sk w d = false := by
  cases d <;> simp [isTup] at h <;> rfl
theorem okMs_no {n : Nat} {sk : List Int} {b : Int} {d : D} {r : List D} (h : isInt d = false) : okMs n sk b (d :: r) = false := by
  cases d <;> simp [isInt] at h <;> rfl
def rAm (ds : List D) (d : D) : Prop := ∃ h sk w x, HOk h ∧ x.canLay0 = true ∧ ds = [x, hD h, tI sk, .int w] ∧ d = .bool (areM h.length sk w x)
theorem w_are_makes {g : Ga} {k j1 : Nat} (W : Wb g) (A : CallOk g j1 "is_integer" (PureC 1 rIs)) (hj1 : j1 ≤ k) (F : Fd g "are_makes" 23 ["thing", "history", "skipped", "w"]) : CallOk g (k + 1) "are_makes" (PureC 4 rAm) := by
  refine mk_pure (N := ["thing", "history", "skipped", "w", "before", "make"]) F ⟨rfl, rfl, rfl, by decide +kernel, rfl, by decide +kernel, by decide +kernel⟩ ?_
  rintro ds d - ⟨h, sk, w, x, ho, hx, rfl, rfl⟩
  show SDn _ _ _ [.imm x, .imm (hD h), .imm (tI sk), .imm (.int w), .un, .un] _
  k_extra "go"
  refine ⟨nod_lay hx, ?_⟩
  k_extra "go"
  refine ⟨fun h1 => ?_, fun h1 => ?_⟩
  · have h1' : isTup x = true := by simpa using h1
    obtain ⟨ds, rfl⟩ := isTup_ex h1'
    have hlay := lay_all (ds := ds) (by simpa [PyData.canLay0] using hx)
    k_extra "go"
    have ret : ∀ {b : Bool}, areM h.length sk w (.tuple ds) = b → PyData.bool b = PyData.bool (areM h.length sk w (.tuple ds)) := fun e => by rw [e]
    refine ⟨fun h2 => ?_, fun h2 => ?_⟩
    · k_extra "go"
      refine ret ?_
      show (decide _ && _) = _
      rw [decide_eq_false (fun z => by have := of_decide_eq_false h2; omega), Bool.false_and]
    · k_extra "go"
      refine ⟨fun h3 => ?_, fun h3 => ?_⟩
      · k_extra "go"
        refine ret ?_
        show (decide _ && _) = _
        rw [decide_eq_false (fun z => by have h3' : decide ((ds.length : Int) ≤ w) = false := by simpa using h3
                                         have := of_decide_eq_false h3'; omega), Bool.false_and]
      · k_extra "go"
        have hall : areM h.length sk w (.tuple ds) = okMs h.length sk (-1) ds := by
          show (decide _ && _) = _
          rw [decide_eq_true (⟨by have := of_decide_eq_true h2; omega, by simpa using h3⟩), Bool.true_and]
        rw [hall] at ret ⊢
        refine sd_forg (fun (x : D) => x) (ei_tup ?_)
        k_extra "go"
        refine ⟨ds, (List.map_id' ds).symm, fun i δ => ∃ b, δ = [.imm (.tuple ds), .imm (hD h), .imm (tI sk), .imm (.int w), .imm (.int b), .un] ∧ okMs h.length sk (-1) ds = okMs h.length sk b (ds.drop i), ⟨_, by k_extra "wk", -1, rfl, rfl⟩, ?_, ?_⟩
        · rintro i x δ2 hx2 ⟨b, rfl, hb⟩
          have hil := (List.getElem?_eq_some_iff.mp hx2).1
          have hdr : ds.drop i = x :: ds.drop (i + 1) := by
            rw [List.drop_eq_getElem_cons hil]
            rw [List.getElem?_eq_getElem hil] at hx2
            rw [Option.some.inj hx2]
          rw [hdr] at hb
          have hxl := hlay x (List.mem_of_getElem? hx2)
          refine ⟨[.imm (.tuple ds), .imm (hD h), .imm (tI sk), .imm (.int w), .imm (.int b), .imm x], tgd_name (by k_extra "lk") rfl (by k_extra "lo") (by k_extra "tp"), ?_⟩
          k_extra "go"
          refine i_call A hj1 (by k_extra "nm") ?_
          k_extra "go"
          refine ⟨_, ⟨x, nod_lay hxl, rfl, rfl⟩, ?_⟩
          k_extra "go"
          refine ⟨fun h4 => ?_, fun h4 => ?_⟩
          · obtain ⟨m, rfl⟩ := isInt_ex (d := x) (by simpa using h4)
            have hst : okMs h.length sk b (.int m :: ds.drop (i + 1)) = (decide (b < m ∧ m < (h.length : Int) ∧ m ∉ sk) && okMs h.length sk m (ds.drop (i + 1))) := rfl
            k_extra "go"
            refine ⟨fun h5 => ?_, fun h5 => ?_⟩
            · k_extra "go"
              refine ret ?_
              rw [hb, hst, decide_eq_false (fun z => by have := of_decide_eq_false h5; omega), Bool.false_and]
            · k_extra "go"
              refine ⟨fun h6 => ?_, fun h6 => ?_⟩
              · k_extra "go"
                refine ⟨fun h7 => ?_, fun h7 => ?_⟩
                · k_extra "go"
                  refine ret ?_
                  rw [hb, hst, decide_eq_false (fun z => z.2.2 (of_decide_eq_true h7)), Bool.false_and]
                · k_extra "go"
                  refine ⟨_, by k_extra "wk", m, rfl, ?_⟩
                  rw [hb, hst, decide_eq_true (⟨of_decide_eq_true h5, by simpa using h6, of_decide_eq_false h7⟩), Bool.true_and]
              · k_extra "go"
                refine ret ?_
                rw [hb, hst, decide_eq_false (fun z => by have h6' : decide (m < (h.length : Int)) = false := by simpa using h6
                                                          have := of_decide_eq_false h6'; omega), Bool.false_and]
          · k_extra "go"
            refine ret ?_
            rw [hb, okMs_no (by simpa using h4)]
        · rintro δ2 ⟨b, rfl, hb⟩
          k_extra "go"
          refine ret ?_
          rw [hb, List.drop_length]; rfl
  · have h1' : isTup x = false := by simpa using h1
    rw [areM_no h1']
    k_extra "go"
end
section
/-! is_plain_row -/
def bolsL : List D → Option (List Bool)
  | [] => some []
  | .bool b :: r => (bolsL r).map (b :: ·)
  | _ :: _ => none
def plainR (row : D) (pat : List Bool) : Bool := match row with
  | .tuple [.tuple ts, _] => bolsL ts == some pat
  | _ => false
theorem bolsL_some : ∀ {ts : List D} {bs : List Bool}, bolsL ts = some bs → ts = bs.map .bool
  | [], bs, h => by simp [bolsL] at h; subst h; rfl
  | d :: r, bs, h => by
    cases d <;> simp [bolsL] at h
    obtain ⟨bs', h1, h2⟩ := h
    subst h2
    rw [bolsL_some h1]; rfl
theorem bolsL_map : ∀ (bs : List Bool), bolsL (bs.map .bool) = some bs
  | [] => rfl
  | b :: bs => by simp [bolsL, bolsL_map bs]
theorem bolsL_none : ∀ {ts : List D}, (ts.filter fun t => !isBol t) = [] → ∃ bs : List Bool, ts = bs.map .bool
  | [], _ => ⟨[], rfl⟩
  | d :: r, h => by
    rw [List.filter_cons] at h
    split at h
    · cases h
    · next c =>
      obtain ⟨b, rfl⟩ := isBol_ex (d := d) (by simpa using c)
      obtain ⟨bs, rfl⟩ := bolsL_none h
      exact ⟨b :: bs, rfl⟩
theorem filter_bols (bs : List Bool) : ((List.map PyData.bool bs).filter fun t => !isBol t) = [] := by
  rw [List.filter_eq_nil_iff]
  intro d hd
  obtain ⟨b, _, rfl⟩ := List.mem_map.mp hd
  simp [isBol]
def rPr (ds : List D) (d : D) : Prop := ∃ row pat, SeqAt.shaped row = true ∧ (∀ ts, row = .tuple ts → ts.length ≤ 1000 ∧ ∀ us, ts[0]? = some (.tuple us) → us.length ≤ 1000) ∧ pat.length ≤ 6 ∧ ds = [row, tB pat] ∧ d = .bool (plainR row pat)
theorem two_of {α : Type} {xs : List α} (h : xs.length = 2) : ∃ a b, xs = [a, b] := by
  match xs, h with
  | [a, b], _ => exact ⟨a, b, rfl⟩
theorem w_plain {g : Ga} {k : Nat} (W : Wb g) (F : Fd g "is_plain_row" 24 ["row", "pattern"]) : CallOk g (k + 1) "is_plain_row" (PureC 2 rPr) := by
  refine mk_pure (N := ["row", "pattern", "told"]) F ⟨rfl, rfl, rfl, by decide +kernel, rfl, by decide +kernel, by decide +kernel⟩ ?_
  rintro ds d - ⟨row, pat, hs, hb, hp, rfl, rfl⟩
  have hlay := SeqAt.canLay_of_shaped hs
  show SDn _ _ _ [.imm row, .imm (tB pat), .un] _
  k_extra "go"
  refine ⟨nod_lay hlay, ?_⟩
  k_extra "go"
  refine ⟨fun h1 => ?_, fun h1 => ?_⟩
  · obtain ⟨ts, rfl⟩ := isTup_ex (d := row) (by simpa using h1)
    obtain ⟨htl, hb2⟩ := hb ts rfl
    have hla := lay_all (ds := ts) (by simpa [PyData.canLay0] using hlay)
    k_extra "go"
    refine ⟨fun h2 => ?_, fun h2 => ?_⟩
    · have h2' : ts.length = 2 := by have : (ts.length : Int) = 2 := by simpa using h2
                                     omega
      obtain ⟨p, q, rfl⟩ := two_of h2'
      have hpl := hla p (by simp)
      k_extra "go"
      refine ⟨p, ix_T rfl, ?_⟩
      k_extra "go"
      refine ⟨nod_lay hpl, ?_⟩
      k_extra "go"
      refine ⟨fun h3 => ?_, fun h3 => ?_⟩
      · obtain ⟨us, rfl⟩ := isTup_ex (d := p) (by simpa using h3)
        have hul := hb2 us rfl
        have hus : SeqAt.shaped (.tuple us) = true := by
          have h0 : SeqAt.shaped (.tuple [.tuple us, q]) = true := hs
          have h4 := SeqAt.depth_of_shaped h0
          simp only [PyData.depth, PyData.depthAll] at h4
          exact Shd.shaped (n := 64) ⟨hpl, by simp only [PyData.depth]; omega⟩ (by omega)
        have hula := lay_all (ds := us) (by simpa [PyData.canLay0] using hpl)
        k_extra "go"
        refine ⟨_, ix_T rfl, ?_⟩
        k_extra "go"
        refine ⟨fun h4 => ?_, fun h4 => ?_⟩
        · k_extra "go"
          show PyData.bool false = .bool (bolsL us == some pat)
          have : (bolsL us == some pat) = false := by
            rw [beq_eq_false_iff_ne]
            intro e
            rw [bolsL_some e, List.length_map, decide_eq_true rfl] at h4
            cases h4
          rw [this]
        · k_extra "go"
          refine ev_lcg (fun (x : D) => x) [("told", 2)] (by k_extra "nm") (ei_tup ?_)
          k_extra "go"
          refine ⟨_, ix_T rfl, ?_⟩
          k_extra "go"
          refine ⟨us, (List.map_id' us).symm, by omega, fun t => !isBol t, fun t => t, fun t ht => ⟨_, tgc_name (by k_extra "lk") rfl (by k_extra "nm"), ?_⟩, ?_⟩
          · refine eif_one ?_
            k_extra "go"
            refine ⟨nod_lay (hula t ht), ?_⟩
            k_extra "go"
            intro _
            k_extra "go"
          rw [List.map_id']
          k_extra "go"
          refine ⟨fun h5 => ?_, fun h5 => ?_⟩
          · k_extra "go"
            refine ⟨_, ix_T rfl, ?_⟩
            k_extra "go"
            refine ⟨_, o_eq hus (shd_tB.shaped (by omega)), ?_⟩
            k_extra "go"
            have h5' : (us.filter fun t => !isBol t) = [] := by
              have := of_decide_eq_true h5
              exact List.length_eq_zero_iff.mp (by omega)
            obtain ⟨bs, rfl⟩ := bolsL_none h5'
            show PyData.bool (PyData.eqv (tB bs) (tB pat)) = .bool (bolsL (bs.map .bool) == some pat)
            rw [bolsL_map]
            congr 1
            rw [Bool.eq_iff_iff, eqv_tB]
            simp
          · k_extra "go"
            show PyData.bool false = .bool (bolsL us == some pat)
            have : (bolsL us == some pat) = false := by
              rw [beq_eq_false_iff_ne]
              intro e
              rw [bolsL_some e, filter_bols] at h5
              simp at h5
            rw [this]
      · k_extra "go"
        have : plainR (.tuple [p, q]) pat = false := by
          cases p <;> simp [isTup] at h3 <;> rfl
        rw [this]
    · k_extra "go"
      have h2' : ts.length ≠ 2 := fun e => by rw [e] at h2; simp at h2
      have : plainR (.tuple ts) pat = false := by
        unfold plainR
        split
        · next e => cases e; exact absurd rfl h2'
        · rfl
      rw [this]
  · k_extra "go"
    have : plainR row pat = false := by
      cases row <;> simp [isTup] at h1 <;> rfl
    rw [this]
end
section
/-! patterns -/
def tabP (t : List (List Bool × List Int)) : List (List Bool × D) := t.map fun p => (p.1, tI p.2)
theorem tabP_keys (t : List (List Bool × List Int)) : (tabP t).map (·.1) = t.map (·.1) := by unfold tabP; rw [List.map_map]; rfl
theorem getP_in : ∀ {t : List (List Bool × List Int)} {k : List Bool} {l : List Int}, (t.map (·.1)).Nodup → (k, l) ∈ t → getP (tabP t) k = some (tI l)
  | [], _, _, _, h => by cases h
  | (k', l') :: t, k, l, nd, h => by
    by_cases e : k' = k
    · subst e
      have := nodup_same nd h List.mem_cons_self
      subst this
      simp [getP, tabP]
    · have h' : (k, l) ∈ t := by
        rcases List.mem_cons.mp h with z | z
        · cases z; exact absurd rfl e
        · exact z
      have ih := getP_in (List.nodup_cons.mp nd).2 h'
      have : getP (tabP ((k', l') :: t)) k = getP (tabP t) k := by simp [getP, tabP, e]
      rw [this]; exact ih
theorem getP_out {t : List (List Bool × List Int)} {k : List Bool} (h : k ∉ t.map (·.1)) : getP (tabP t) k = none := by
  unfold getP
  rw [Option.map_eq_none_iff, List.find?_eq_none]
  intro p hp
  obtain ⟨q, hq, e⟩ := List.mem_map.mp hp
  subst e
  simp only [decide_eq_true_eq]
  intro e
  exact h (List.mem_map.mpr ⟨q, hq, e⟩)
theorem putP_add {t : List (List Bool × List Int)} {k : List Bool} {c : Int} (nd : (t.map (·.1)).Nodup) :
    (∃ l, (k, l) ∈ t ∧ getP (tabP t) k = some (tI l) ∧ putP (tabP t) k (tI (l ++ [c])) = tabP (addC k c t)) ∨ (getP (tabP t) k = none ∧ putP (tabP t) k (tI [c]) = tabP (addC k c t)) := by
  by_cases m : k ∈ t.map (·.1)
  · obtain ⟨⟨k2, l⟩, hp, e⟩ := List.mem_map.mp m
    simp only at e
    subst e
    have hg := getP_in nd hp
    refine .inl ⟨l, hp, hg, ?_⟩
    unfold putP
    rw [hg]
    simp only [Option.isSome_some, if_true]
    clear hg m
    induction t with
    | nil => cases hp
    | cons p r ih =>
      obtain ⟨k', l'⟩ := p
      obtain ⟨n1, n2⟩ := List.nodup_cons.mp nd
      have rest : ∀ r : List (List Bool × List Int), k2 ∉ r.map (·.1) → ((tabP r).map fun p => if p.1 = k2 then (p.1, tI (l ++ [c])) else p) = tabP r := by
        intro r hr
        refine (List.map_congr_left fun p hp => ?_).trans (List.map_id _)
        obtain ⟨q, hq, e⟩ := List.mem_map.mp hp
        subst e
        rw [if_neg (fun e => hr (List.mem_map.mpr ⟨q, hq, e⟩))]; rfl
      unfold addC
      rcases List.mem_cons.mp hp with z | z
      · cases z
        rw [if_pos rfl]
        show (if k2 = k2 then (k2, tI (l ++ [c])) else (k2, tI l)) :: ((tabP r).map _) = (k2, tI (l ++ [c])) :: tabP r
        rw [if_pos rfl, rest r n1]
      · have hne : k' ≠ k2 := fun e => by subst e; exact n1 (mem_key z)
        rw [if_neg hne]
        show (if k' = k2 then (k', tI (l ++ [c])) else (k', tI l')) :: ((tabP r).map _) = (k', tI l') :: tabP (addC k2 c r)
        rw [if_neg hne, ih n2 z]
  · refine .inr ⟨getP_out m, ?_⟩
    unfold putP
    rw [getP_out m, addC_out m]
    simp [tabP]
def rPt (ds : List D) (d : D) : Prop := ∃ h left makes, HOk h ∧ left.length ≤ 6 ∧ makes.length ≤ 6 ∧ makes ≠ [] ∧ (∀ m ∈ makes, 0 ≤ m ∧ m < (h.length : Int)) ∧ ds = [hD h, tI left, tI makes] ∧ d = .tuple ((ptsD h left makes).map ptD)
theorem w_patterns {g : Ga} {k j1 : Nat} (W : Wb g) (A : CallOk g j1 "ancestors" (PureC 2 rAnc)) (hj1 : j1 ≤ k) (F : Fd g "patterns" 12 ["history", "left", "makes"]) : CallOk g (k + 1) "patterns" (PureC 3 rPt) := by
  refine mk_pure (N := ["history", "left", "makes", "above", "found", "candidate", "pattern", "make", "row"]) F ⟨rfl, rfl, rfl, by decide +kernel, rfl, by decide +kernel, by decide +kernel⟩ ?_
  rintro ds d - ⟨h, left, makes, ho, hl, hm, hne, hmk, rfl, rfl⟩
  have h6 := ho.len
  show SDn _ _ _ [.imm (hD h), .imm (tI left), .imm (tI makes), .un, .un, .un, .un, .un, .un] _
  k_extra "s"
  refine sd_setlcm PyData.int [("make", 7)] (by k_extra "nm") rfl (by k_extra "nm") rfl (by k_extra "nm") (iy := 3) rfl (ei_tup ?_)
  k_extra "go"
  refine ⟨fun m => tI (anc h m), fun m hm2 => ⟨_, tgc_name (by k_extra "lk") rfl (by k_extra "nm"), ?_⟩, ?_⟩
  · refine i_call A hj1 (by k_extra "nm") ?_
    k_extra "go"
    have := hmk m hm2
    exact ⟨_, ⟨h, m, ho, this.1, this.2, rfl, rfl⟩, rfl, rfl⟩
  refine ⟨_, _, by k_extra "lk", rfl, ?_⟩
  dsimp only
  k_extra "s"
  refine sd_newP (by k_extra "lk") rfl ?_ (by k_extra "lo") (by k_extra "tp")
  dsimp only
  k_extra "s"
  refine sd_forg PyData.int (ei_tup ?_)
  k_extra "go"
  refine ⟨fun i δ => δ = [.imm (hD h), .imm (tI left), .imm (tI makes), .imm (.list (makes.map fun m => tI (anc h m))), .pat (tabP (ptT h (left.take i) makes)), .un, .un, .un, .un], ⟨_, by k_extra "wk", rfl⟩, ?_, ?_⟩
  · rintro i x δ2 hx rfl
    have hil := (List.getElem?_eq_some_iff.mp hx).1
    have tk : left.take (i + 1) = left.take i ++ [x] := by rw [List.take_succ, hx]; rfl
    have hsn : ptT h (left.take (i + 1)) makes = addC (pat h makes x) x (ptT h (left.take i) makes) := by rw [tk]; exact grp_snoc _ _ _
    have hnd := (grp_keys (pat h makes) (left.take i)).1
    have hlen : (ptT h (left.take i) makes).length ≤ 6 := Nat.le_trans (grp_len _ _) (by rw [List.length_take]; omega)
    have hmem : ∀ p ∈ ptT h (left.take i) makes, p.2.length ≤ 6 := fun p hp => Nat.le_trans (grp_mem _ _ p hp).2.1 (by rw [List.length_take]; omega)
    generalize hT : ptT h (left.take i) makes = T at *
    have hT2 : grp (pat h makes) (left.take i) = T := hT
    rw [hT2] at hnd
    refine ⟨[.imm (hD h), .imm (tI left), .imm (tI makes), .imm (.list (makes.map fun m => tI (anc h m))), .pat (tabP T), .imm (.int x), .un, .un, .un], tgd_name (by k_extra "lk") rfl (by k_extra "lo") (by k_extra "tp"), ?_⟩
    k_extra "go"
    refine ev_lcm (fun m => tI (anc h m)) [("row", 8)] (by k_extra "nm") (ei_list ?_)
    k_extra "go"
    refine ⟨fun m => .bool (brk h x m), fun m hm2 => ⟨_, tgc_name (by k_extra "lk") rfl (by k_extra "nm"), ?_⟩, ?_⟩
    · k_extra "go"
    have em : makes.map (fun m => PyData.bool (brk h x m)) = (pat h makes x).map .bool := by unfold pat; rw [List.map_map]; rfl
    rw [em]
    k_extra "go"
    refine sd_putP ?_ (by k_extra "vs")
    refine ev_op (ev_getP (by k_extra "lk") (by k_extra "vs") ?_)
    k_extra "go"
    refine ⟨tabP T, pat h makes x, rfl, by k_extra "lk", ?_⟩
    k_extra "go"
    rcases putP_add (k := pat h makes x) (c := x) hnd with ⟨l, hp, hg, hput⟩ | ⟨hg, hput⟩
    · rw [hg]
      have e1 : tI (l ++ [x]) = .tuple (l.map .int ++ [.int x]) := by simp [tI]
      rw [e1] at hput
      refine ⟨_, o_catT (xs := l.map .int) (ys := [.int x]) ?_, _, _, by k_extra "lk", ?_⟩
      · have := hmem _ hp
        rw [sizeLine_eq, List.length_map]
        simp only [List.length_singleton] at *
        omega
      k_extra "go"
      refine ⟨_, pat h makes x, _, rfl, by k_extra "lk", by unfold tabP; rw [List.length_map]; omega, ?_⟩
      k_extra "go"
      refine ⟨_, ?_, rfl⟩
      rw [hsn, ← hput]
      k_extra "wk"
    · rw [hg]
      have e1 : tI [x] = .tuple ([] ++ [.int x]) := rfl
      rw [e1] at hput
      refine ⟨_, o_catT (xs := []) (ys := [.int x]) (by rw [sizeLine_eq]; simp), _, _, by k_extra "lk", ?_⟩
      k_extra "go"
      refine ⟨_, pat h makes x, _, rfl, by k_extra "lk", by unfold tabP; rw [List.length_map]; omega, ?_⟩
      k_extra "go"
      refine ⟨_, ?_, rfl⟩
      rw [hsn, ← hput]
      k_extra "wk"
  · rintro δ2 rfl
    rw [List.take_length]
    have hlen : (ptT h left makes).length ≤ 6 := Nat.le_trans (grp_len _ _) hl
    have hnd := (grp_keys (pat h makes) left).1
    have hkey := (grp_keys (pat h makes) left).2
    have hke : (tabP (ptT h left makes)).map (·.1) = (ptT h left makes).map (·.1) := tabP_keys _
    k_extra "go"
    refine ev_lcm (fun k => tB k) [("pattern", 6)] (by k_extra "nm") (ei_list (ev_sortedP (by k_extra "lk") (by k_extra "vs") (by k_extra "nm") (by k_extra "bn") ?_ ?_ ?_))
    · rw [hke]
      intro k hk
      obtain ⟨c, _, e⟩ := (hkey k).mp hk
      rw [← e]
      intro z
      have z2 := congrArg List.length z
      unfold pat at z2
      rw [List.length_map] at z2
      exact hne (List.length_eq_zero_iff.mp z2)
    · unfold tabP; rw [List.length_map]; omega
    rw [hke]
    refine ⟨_, rfl, due h left makes, rfl, by unfold due; rw [srtB_len, List.length_map]; omega, fun k => ptD (k, partOf h left makes k), fun k hk => ⟨_, tgc_name (by k_extra "lk") rfl (by k_extra "nm"), ?_⟩, ?_⟩
    · have hk2 : k ∈ (ptT h left makes).map (·.1) := srtB_mem.mp hk
      obtain ⟨⟨k2, l⟩, hp, ek⟩ := List.mem_map.mp hk2
      simp only at ek
      subst ek
      have hpart := grp_part (pat h makes) left _ _ hp
      have hgp : getP (tabP (ptT h left makes)) k2 = some (tI l) := getP_in hnd hp
      k_extra "go"
      refine ⟨_, k2, _, rfl, by k_extra "lk", hgp, ?_⟩
      k_extra "go"
      refine ⟨?_, rfl⟩
      show ptD (k2, l) = ptD (k2, partOf h left makes k2)
      rw [hpart]; rfl
    k_extra "go"
    show _ = _
    unfold ptsD
    rw [List.map_map]; rfl
end
section
/-! holds -/
theorem shd_in {n : Nat} {ds : List D} (h : Shd n (.tuple ds)) : ∀ d ∈ ds, Shd n d := by
  intro d hd
  have hl := lay_all (ds := ds) (by have := h.lay; simpa [PyData.canLay0] using this) d hd
  refine ⟨hl, ?_⟩
  have h2 := h.dep
  simp only [PyData.depth] at h2
  have key : ∀ (l : List D), d ∈ l → d.depth ≤ PyData.depthAll l := by
    intro l
    induction l with
    | nil => intro z; cases z
    | cons x l ih =>
      intro z
      simp only [PyData.depthAll]
      rcases List.mem_cons.mp z with z | z
      · subst z; omega
      · have := ih z; omega
  have := key ds hd
  omega
theorem okMs_spec {n : Nat} {sk : List Int} : ∀ {ds : List D} {b : Int}, -1 ≤ b → okMs n sk b ds = true → ∃ ms : List Int, ds = ms.map .int ∧ ∀ m ∈ ms, 0 ≤ m ∧ m < (n : Int)
  | [], _, _, _ => ⟨[], rfl, fun _ z => by cases z⟩
  | d :: r, b, hb, h => by
    cases d with
    | int m =>
      have e : okMs n sk b (.int m :: r) = (decide (b < m ∧ m < (n : Int) ∧ m ∉ sk) && okMs n sk m r) := rfl
      rw [e, Bool.and_eq_true, decide_eq_true_eq] at h
      obtain ⟨ms, e1, e2⟩ := okMs_spec (b := m) (by omega) h.2
      exact ⟨m :: ms, by rw [e1]; rfl, fun x hx => by
        rcases List.mem_cons.mp hx with z | z
        · subst z; omega
        · exact e2 x z⟩
    | _ => simp [okMs] at h
theorem areM_spec {n : Nat} {sk : List Int} {w : Int} {x : D} (h : areM n sk w x = true) : ∃ ms : List Int, x = tI ms ∧ ms ≠ [] ∧ (ms.length : Int) ≤ w ∧ (∀ m ∈ ms, 0 ≤ m ∧ m < (n : Int)) ∧ msOf x = ms := by
  cases x with
  | tuple ds =>
    have e : areM n sk w (.tuple ds) = (decide (1 ≤ ds.length ∧ (ds.length : Int) ≤ w) && okMs n sk (-1) ds) := rfl
    rw [e, Bool.and_eq_true, decide_eq_true_eq] at h
    obtain ⟨ms, e1, e2⟩ := okMs_spec (b := -1) (by omega) h.2
    subst e1
    rw [List.length_map] at h
    refine ⟨ms, rfl, fun z => by subst z; simp at h, h.1.2, e2, ?_⟩
    show (ms.map PyData.int).filterMap intOf = ms
    rw [List.filterMap_map]
    have : (intOf ∘ PyData.int) = some := rfl
    rw [this, List.filterMap_some]
  | _ => simp [areM] at h
def rHo (R : Nat) (ds : List D) (d : D) : Prop := ∃ h sk left w r x, HOk h ∧ left.length ≤ 6 ∧ w ≤ 6 ∧ r ≤ R ∧ PD r x ∧ ds = [hD h, tI sk, tI left, .int (w : Nat), .int (r : Nat), x] ∧ d = .bool (gh (areM h.length sk w) plainR h sk r left x)
theorem three_of {α : Type} {xs : List α} (h : xs.length = 3) : ∃ a b c, xs = [a, b, c] := by
  match xs, h with
  | [a, b, c], _ => exact ⟨a, b, c, rfl⟩
theorem one_of {α : Type} {xs : List α} (h : xs.length = 1) : ∃ a, xs = [a] := by
  match xs, h with
  | [a], _ => exact ⟨a, rfl⟩
theorem w_holds_step {g : Ga} {k j1 j2 j3 j4 j5 : Nat} (W : Wb g) (A : CallOk g j1 "is_integer" (PureC 1 rIs)) (B : CallOk g j2 "classes" (PureC 2 rCls)) (C : CallOk g j3 "are_makes" (PureC 4 rAm)) (P : CallOk g j4 "patterns" (PureC 3 rPt)) (Z : CallOk g j5 "is_plain_row" (PureC 2 rPr))
    (hj1 : j1 ≤ k) (hj2 : j2 ≤ k) (hj3 : j3 ≤ k) (hj4 : j4 ≤ k) (hj5 : j5 ≤ k) (F : Fd g "holds" 25 ["history", "skipped", "left", "w", "r", "plan"]) (R : Nat) (ih : 1 ≤ R → CallOk g (k + R) "holds" (PureC 6 (rHo (R - 1)))) : CallOk g (k + R + 1) "holds" (PureC 6 (rHo R)) := by
  refine mk_pure (N := ["history", "skipped", "left", "w", "r", "plan", "rows", "parts", "row", "part", "one"]) F ⟨rfl, rfl, rfl, by decide +kernel, rfl, by decide +kernel, by decide +kernel⟩ ?_
  rintro ds d - ⟨h, sk, left, w, r, x, ho, hl, hw, hr, pd, rfl, rfl⟩
  obtain ⟨pb, prow⟩ := pd.b
  have h6 := ho.len
  have hcl := cls_len (h := h) (sk := sk)
  show SDn _ _ _ [.imm (hD h), .imm (tI sk), .imm (tI left), .imm (.int w), .imm (.int r), .imm x, .un, .un, .un, .un, .un] _
  have ret : ∀ {b : Bool}, gh (areM h.length sk w) plainR h sk r left x = b → PyData.bool b = PyData.bool (gh (areM h.length sk w) plainR h sk r left x) := fun e => by rw [e]
  k_extra "go"
  refine ⟨nod_lay pb.shd.lay, ?_⟩
  k_extra "go"
  refine ⟨fun h1 => ?_, fun h1 => ?_⟩
  · obtain ⟨xs, rfl⟩ := isTup_ex (d := x) (by simpa using h1)
    have hxl := pb.len xs rfl
    have hin := shd_in pb.shd
    k_extra "go"
    refine ⟨fun h2 => ?_, fun h2 => ?_⟩
    · k_extra "go"
      have : xs = [] := by
        have := of_decide_eq_true h2
        exact List.length_eq_zero_iff.mp (by omega)
      subst this
      exact ret (gh_len (by simp) (by simp))
    · obtain ⟨y, ys, rfl⟩ : ∃ y ys, xs = y :: ys := by
        cases xs with
        | nil => simp at h2
        | cons y ys => exact ⟨y, ys, rfl⟩
      have hy := hin y List.mem_cons_self
      have hsf : SeqAt.shaped (PyData.str "found") = true := (shd_str (n := 1) (by decide +kernel)).shaped (by omega)
      have hsr : SeqAt.shaped (PyData.str "round") = true := (shd_str (n := 1) (by decide +kernel)).shaped (by omega)
      k_extra "go"
      refine ⟨y, ix_T (atI_some (j := 0) rfl rfl), ?_⟩
      k_extra "go"
      refine ⟨_, o_eq (hy.shaped (by omega)) hsf, ?_⟩
      rw [eqv_str]
      refine ⟨fun h3 => ?_, fun h3 => ?_⟩
      · k_extra "go"
        refine ⟨fun h4 => ?_, fun h4 => ?_⟩
        · have l2 : (y :: ys).length = 2 := by
            have h4' : ((y :: ys).length : Int) = 2 := by simpa using h4
            omega
          obtain ⟨z, rfl⟩ := one_of (xs := ys) (by simpa using l2)
          have hz := hin z (by simp)
          k_extra "go"
          refine i_call A (by show j1 ≤ k + R; omega) (by k_extra "nm") ?_
          k_extra "go"
          refine ⟨z, ix_T rfl, ?_⟩
          k_extra "go"
          refine ⟨_, ⟨z, nod_lay hz.lay, rfl, rfl⟩, ?_⟩
          k_extra "go"
          refine ⟨fun h5 => ?_, fun h5 => ?_⟩
          · k_extra "go"
            refine ret ?_
            rw [gh2]
            cases z <;> simp [isInt] at h5 <;> simp
          · obtain ⟨c, rfl⟩ := isInt_ex (d := z) (by simpa using h5)
            rw [gh2, h3, Bool.true_and] at ret ⊢
            k_extra "go"
            refine i_call B (by show j2 ≤ k + R; omega) (by k_extra "nm") ?_
            k_extra "go"
            refine ⟨_, ⟨h, sk, ho, rfl, rfl⟩, ?_⟩
            k_extra "go"
            refine ⟨.int c, ix_T rfl, ?_⟩
            k_extra "go"
            have hg : ∀ {b : Bool}, (decide (0 ≤ c ∧ c < ((cls h sk).length : Int)) && allIn left ((cls h sk).getD c.toNat [])) = b → PyData.bool b = PyData.bool (decide (0 ≤ c ∧ c < ((cls h sk).length : Int)) && allIn left ((cls h sk).getD c.toNat [])) := fun e => by rw [e]
            refine ⟨fun h6 => ?_, fun h6 => ?_⟩
            · k_extra "go"
              refine hg ?_
              rw [decide_eq_false (fun z => by have := of_decide_eq_false h6; omega), Bool.false_and]
            · k_extra "go"
              rw [List.length_map]
              refine ⟨fun h7 => ?_, fun h7 => ?_⟩
              · have h6' := of_decide_eq_true h6
                have h7' := of_decide_eq_true h7
                have hcn : c.toNat < (cls h sk).length := by omega
                have hgc : (cls h sk)[c.toNat]? = some ((cls h sk).getD c.toNat []) := by rw [List.getD_eq_getElem?_getD, List.getElem?_eq_getElem hcn]; rfl
                k_extra "go"
                refine ev_lcg PyData.int [("one", 10)] (by k_extra "nm") (ei_tup ?_)
                k_extra "go"
                refine ⟨fun a => !decide (a ∈ (cls h sk).getD c.toNat []), .int, fun a ha => ⟨_, tgc_name (by k_extra "lk") rfl (by k_extra "nm"), ?_⟩, ?_⟩
                · refine eif_one ?_
                  k_extra "go"
                  refine ⟨.int c, ix_T rfl, ?_⟩
                  refine ⟨tI ((cls h sk).getD c.toNat []), ix_T (atI_some (j := c.toNat) (by omega) (by rw [List.getElem?_map, hgc]; rfl)), ?_⟩
                  k_extra "go"
                  intro _
                  k_extra "go"
                k_extra "go"
                refine hg ?_
                rw [decide_eq_true ⟨h6', h7'⟩, Bool.true_and, Bool.eq_iff_iff, ← filter_all, decide_eq_true_eq]
                omega
              · k_extra "go"
                refine hg ?_
                rw [decide_eq_false (fun z => by have := of_decide_eq_false h7; omega), Bool.false_and]
        · k_extra "go"
          have l2 : (y :: ys).length ≠ 2 := fun e => by rw [e] at h4; simp at h4
          exact ret (gh_found h3 l2)
      · k_extra "go"
        refine ⟨y, ix_T (atI_some (j := 0) rfl rfl), ?_⟩
        k_extra "go"
        refine ⟨_, o_ne (hy.shaped (by omega)) hsr, ?_⟩
        rw [eqv_str]
        refine ⟨fun h4 => ?_, fun h4 => ?_⟩
        · k_extra "go"
          refine ⟨fun h5 => ?_, fun h5 => ?_⟩
          · have l3 : (y :: ys).length = 3 := by
              have h5' : ((y :: ys).length : Int) = 3 := by simpa using h5
              omega
            obtain ⟨y', ms, rows, e3⟩ := three_of l3
            cases e3
            have hms := hin ms (by simp)
            have hrows := hin rows (by simp)
            k_extra "go"
            refine ⟨fun h6 => ?_, fun h6 => ?_⟩
            · obtain ⟨r, rfl⟩ : ∃ n, r = n + 1 := ⟨r - 1, by have := of_decide_eq_false h6; omega⟩
              have isr : isS y "round" = true := by simpa using h4
              rw [gh3, isr, Bool.true_and] at ret ⊢
              k_extra "go"
              refine i_call C (by show j3 ≤ k + R; omega) (by k_extra "nm") ?_
              k_extra "go"
              refine ⟨ms, ix_T rfl, ?_⟩
              k_extra "go"
              refine ⟨_, ⟨h, sk, w, ms, ho, hms.lay, rfl, rfl⟩, ?_⟩
              k_extra "go"
              refine ⟨fun h7 => ?_, fun h7 => ?_⟩
              · k_extra "go"
                refine ret ?_
                have : areM h.length sk w ms = false := by simpa using h7
                rw [this, Bool.false_and]
              · have am : areM h.length sk w ms = true := by simpa using h7
                obtain ⟨msl, em, mne, mw, mrg, mof⟩ := areM_spec am
                rw [am, Bool.true_and, mof] at ret ⊢
                k_extra "go"
                refine i_call P (by show j4 ≤ k + R; omega) (by k_extra "nm") ?_
                k_extra "go"
                refine ⟨ms, ix_T rfl, ?_⟩
                k_extra "go"
                refine ⟨_, ⟨h, left, msl, ho, hl, by omega, mne, mrg, by rw [em], rfl⟩, ?_⟩
                have pl := pts_len (h := h) (left := left) (ch := msl)
                k_extra "go"
                refine ⟨rows, ix_T rfl, ?_⟩
                k_extra "go"
                refine ⟨nod_lay hrows.lay, ?_⟩
                k_extra "go"
                refine ⟨fun h8 => ?_, fun h8 => ?_⟩
                · obtain ⟨rs, rfl⟩ := isTup_ex (d := rows) (by simpa using h8)
                  obtain ⟨rl, rb⟩ := prow _ rs rfl rfl
                  have hrin := shd_in hrows
                  k_extra "go"
                  refine ⟨.tuple rs, ix_T rfl, ?_⟩
                  k_extra "go"
                  rw [List.length_map]
                  refine ⟨fun h9 => ?_, fun h9 => ?_⟩
                  · k_extra "go"
                    refine ret ?_
                    show (decide (rs.length = _) && _) = _
                    rw [decide_eq_false (fun z => by rw [z] at h9; simp at h9), Bool.false_and]
                  · have le : rs.length = (ptsD h left msl).length := by
                      have h9' : ((rs.length : Nat) : Int) = ((ptsD h left msl).length : Nat) := by simpa using h9
                      omega
                    k_extra "go"
                    have hret : ∀ {b : Bool}, rowsG plainR (gh (areM h.length sk w) plainR h sk r) rs (ptsD h left msl) = b → PyData.bool b = PyData.bool (decide (rs.length = (ptsD h left msl).length) && rowsG plainR (gh (areM h.length sk w) plainR h sk r) rs (ptsD h left msl)) := fun e => by rw [e, decide_eq_true le, Bool.true_and]
                    refine sd_forg (fun q : D × (List Bool × List Int) => .tuple [q.1, ptD q.2]) (ei_zip (by k_extra "nm") (by k_extra "bn") ?_)
                    k_extra "go"
                    refine ⟨.tuple rs, ix_T rfl, ?_⟩
                    k_extra "go"
                    refine ⟨rs.zip (ptsD h left msl), by rw [List.zip_map_right, List.map_map]; rfl, fun i δ => δ = [.imm (hD h), .imm (tI sk), .imm (tI left), .imm (.int w), .imm (.int (r + 1 : Nat)), .imm (.tuple [y, ms, .tuple rs]), .un, .imm (.tuple ((ptsD h left msl).map ptD)), .un, .un, .un] ∧
                      rowsG plainR (gh (areM h.length sk w) plainR h sk r) rs (ptsD h left msl) = rowsG plainR (gh (areM h.length sk w) plainR h sk r) (rs.drop i) ((ptsD h left msl).drop i), ⟨_, by k_extra "wk", rfl, rfl⟩, ?_, ?_⟩
                    · rintro i ⟨row, p⟩ δ2 hq ⟨rfl, hb⟩
                      obtain ⟨hq1, hq2⟩ : rs[i]? = some row ∧ (ptsD h left msl)[i]? = some p := by
                        rw [List.getElem?_zip_eq_some] at hq; exact hq
                      have hi1 := (List.getElem?_eq_some_iff.mp hq1).1
                      have hi2 := (List.getElem?_eq_some_iff.mp hq2).1
                      have d1 : rs.drop i = row :: rs.drop (i + 1) := by
                        rw [List.drop_eq_getElem_cons hi1]
                        rw [List.getElem?_eq_getElem hi1] at hq1
                        rw [Option.some.inj hq1]
                      have d2 : (ptsD h left msl).drop i = p :: (ptsD h left msl).drop (i + 1) := by
                        rw [List.drop_eq_getElem_cons hi2]
                        rw [List.getElem?_eq_getElem hi2] at hq2
                        rw [Option.some.inj hq2]
                      rw [d1, d2] at hb
                      have hb2 : rowsG plainR (gh (areM h.length sk w) plainR h sk r) (row :: rs.drop (i + 1)) (p :: (ptsD h left msl).drop (i + 1)) = (plainR row p.1 && gh (areM h.length sk w) plainR h sk r p.2 (sndD row) && rowsG plainR (gh (areM h.length sk w) plainR h sk r) (rs.drop (i + 1)) ((ptsD h left msl).drop (i + 1))) := rfl
                      rw [hb2] at hb
                      have rm := List.mem_of_getElem? hq1
                      have hrow := hrin row rm
                      have rbb := rb row rm
                      obtain ⟨kk, hkk, ep⟩ := List.mem_map.mp (List.mem_of_getElem? hq2)
                      have p1l : p.1.length ≤ 6 := by
                        obtain ⟨c, _, ec⟩ := due_mem.mp hkk
                        rw [← ep, ← ec]
                        show (pat h msl c).length ≤ 6
                        unfold pat
                        rw [List.length_map]; omega
                      have p2l : p.2.length ≤ 6 := by
                        rw [← ep]
                        exact Nat.le_trans (List.length_filter_le _ _) hl
                      refine ⟨[.imm (hD h), .imm (tI sk), .imm (tI left), .imm (.int w), .imm (.int (r + 1 : Nat)), .imm (.tuple [y, ms, .tuple rs]), .un, .imm (.tuple ((ptsD h left msl).map ptD)), .imm row, .imm (ptD p), .un], tgd_pair (by k_extra "lk") rfl (by k_extra "lk") rfl (by k_extra "lo") (by k_extra "lo") (.inl rfl), ?_⟩
                      k_extra "go"
                      refine i_call Z (by show j5 ≤ k + R; omega) (by k_extra "nm") ?_
                      k_extra "go"
                      refine ⟨tB p.1, ix_T (atI_some (j := 0) rfl rfl), ?_⟩
                      k_extra "go"
                      refine ⟨_, ⟨row, p.1, hrow.shaped (by omega), fun ts et => ⟨by have := rbb.len ts et; omega, fun us eu => by have := (rbb.hd ts us et eu).1; omega⟩, p1l, rfl, rfl⟩, ?_⟩
                      k_extra "go"
                      refine ⟨fun h10 => ?_, fun h10 => ?_⟩
                      · have pr : plainR row p.1 = true := by simpa using h10
                        obtain ⟨ts, qd, er⟩ : ∃ ts qd, row = .tuple [.tuple ts, qd] := by
                          unfold plainR at pr
                          split at pr
                          · exact ⟨_, _, rfl⟩
                          · cases pr
                        subst er
                        rw [pr, Bool.true_and] at hb
                        have pdq : PD r qd := pd.2 _ rs rfl rfl _ rm _ qd rfl rfl
                        k_extra "go"
                        refine i_call (ih (by omega)) (by show k + R ≤ k + R; omega) (by k_extra "nm") ?_
                        k_extra "go"
                        refine ⟨tI p.2, ix_T (atI_some (j := 1) rfl rfl), ?_⟩
                        k_extra "go"
                        refine ⟨qd, ix_T rfl, ?_⟩
                        k_extra "go"
                        refine ⟨_, ⟨h, sk, p.2, w, r, qd, ho, p2l, hw, by omega, pdq, by rw [show ((r + 1 : Nat) : Int) - 1 = (r : Nat) by omega], rfl⟩, ?_⟩
                        k_extra "go"
                        have hb3 : rowsG plainR (gh (areM h.length sk w) plainR h sk r) rs (ptsD h left msl) = (gh (areM h.length sk w) plainR h sk r p.2 qd && rowsG plainR (gh (areM h.length sk w) plainR h sk r) (rs.drop (i + 1)) ((ptsD h left msl).drop (i + 1))) := hb
                        refine ⟨fun h11 => ?_, fun h11 => ?_⟩
                        · k_extra "go"
                          refine hret ?_
                          have : gh (areM h.length sk w) plainR h sk r p.2 qd = false := by simpa using h11
                          rw [hb3, this, Bool.false_and]
                        · k_extra "go"
                          refine ⟨_, by k_extra "wk", rfl, ?_⟩
                          have : gh (areM h.length sk w) plainR h sk r p.2 qd = true := by simpa using h11
                          rw [hb3, this, Bool.true_and]
                      · k_extra "go"
                        refine hret ?_
                        have : plainR row p.1 = false := by simpa using h10
                        rw [hb, this, Bool.false_and, Bool.false_and]
                    · rintro δ2 ⟨rfl, hb⟩
                      rw [List.length_zip, ← le, Nat.min_self, List.drop_length, le, List.drop_length] at hb
                      k_extra "go"
                      refine hret ?_
                      rw [hb]; rfl
                · k_extra "go"
                  refine ret ?_
                  cases rows <;> simp [isTup] at h8 <;> rfl
            · k_extra "go"
              refine ret (gh_other h3 (.inr (.inr (by have := of_decide_eq_true h6; omega))))
          · k_extra "go"
            refine ret (gh_other h3 (.inr (.inl fun e => ?_)))
            rw [e] at h5
            simp at h5
        · k_extra "go"
          exact ret (gh_other h3 (.inl (by simpa using h4)))
  · k_extra "go"
    refine ret (gh_no fun xs e => ?_)
    subst e
    simp [isTup] at h1
theorem w_holds {g : Ga} {k j1 j2 j3 j4 j5 : Nat} (W : Wb g) (A : CallOk g j1 "is_integer" (PureC 1 rIs)) (B : CallOk g j2 "classes" (PureC 2 rCls)) (C : CallOk g j3 "are_makes" (PureC 4 rAm)) (P : CallOk g j4 "patterns" (PureC 3 rPt)) (Z : CallOk g j5 "is_plain_row" (PureC 2 rPr))
    (hj1 : j1 ≤ k) (hj2 : j2 ≤ k) (hj3 : j3 ≤ k) (hj4 : j4 ≤ k) (hj5 : j5 ≤ k) (F : Fd g "holds" 25 ["history", "skipped", "left", "w", "r", "plan"]) : ∀ R, CallOk g (k + R + 1) "holds" (PureC 6 (rHo R)) := by
  intro R
  induction R with
  | zero => exact w_holds_step W A B C P Z hj1 hj2 hj3 hj4 hj5 F 0 (fun z => absurd z (by omega))
  | succ R ih => exact w_holds_step W A B C P Z hj1 hj2 hj3 hj4 hj5 F (R + 1) (fun _ => ih)
end
section
def rJr (R : Nat) (ds : List D) (d : D) : Prop := ∃ h sk w r x, HOk h ∧ w ≤ 6 ∧ r ≤ R ∧ PD r x ∧ ds = [hD h, tI sk, .int (w : Nat), .int (r : Nat), x] ∧ d = .bool (gh (areM h.length sk w) plainR h sk r (upto h.length) x)
theorem w_judge {g : Ga} {k j1 R : Nat} (W : Wb g) (A : CallOk g j1 "holds" (PureC 6 (rHo R))) (hj1 : j1 ≤ k) (F : Fd g "judge_rounds" 26 ["history", "skipped", "w", "r", "plan"]) : CallOk g (k + 1) "judge_rounds" (PureC 5 (rJr R)) := by
  refine mk_pure (N := ["history", "skipped", "w", "r", "plan"]) F ⟨rfl, rfl, rfl, by decide +kernel, rfl, by decide +kernel, by decide +kernel⟩ ?_
  rintro ds d - ⟨h, sk, w, r, x, ho, hw, hr, pd, rfl, rfl⟩
  have h6 := ho.len
  show SDn _ _ _ [.imm (hD h), .imm (tI sk), .imm (.int w), .imm (.int r), .imm x] _
  k_extra "s"
  k_extra "s"
  refine i_call A hj1 (by k_extra "nm") ?_
  refine ai_cons ?_
  k_extra "e"
  refine ai_cons ?_
  k_extra "e"
  refine ai_cons (i_tupR (by k_extra "nm") (by k_extra "bn") (by k_extra "nm") (by k_extra "bn") ?_)
  k_extra "go"
  refine ⟨by omega, by omega, ?_⟩
  k_extra "go"
  rw [Int.toNat_natCast]
  refine ⟨_, ⟨h, sk, upto h.length, w, r, x, ho, by rw [upto_len]; exact h6, hw, hr, pd, rfl, rfl⟩, ?_⟩
  k_extra "go"
  all_goals rfl
end
section
set_option autoImplicit false
/-! _law_holds -/
def rLh (R : Nat) (ds : List D) (d : D) : Prop := ∃ h sk left w r x, HOk h ∧ left.length ≤ 6 ∧ w ≤ 3 ∧ r ≤ R ∧ PD r x ∧ ds = [hD h, tI sk, tI left, .int (w : Nat), .int (r : Nat), x] ∧ d = .bool (gh (areM h.length sk w) plainR h sk r left x)
abbrev lhN : List Str := ["_law_history_here", "_law_skipped", "_law_left", "_law_w", "_law_r", "_law_plan", "_law_classes_here", "_law_before", "_law_make", "_law_told", "_law_due", "_law_k", "_law_row", "_law_one", "_law_j"]
theorem lh_head {g : Ga} {k j1 j2 : Nat} (W : Wb g) (A : CallOk g j1 "_law_is_int" (PureC 1 rIs)) (B : CallOk g j2 "_law_classes" (PureC 2 rLc)) (hj1 : j1 ≤ k) (hj2 : j2 ≤ k)
    {h : Hist} {sk left : List Int} {w r : Nat} {x : D} (ho : HOk h) (hl : left.length ≤ 6) (hw : w ≤ 3) (pd : PD r x)
    (cont : ∀ ys, x = .tuple (.str "round" :: ys) → SDn ⟨g, k, ["_law_history_here", "_law_skipped", "_law_left", "_law_w", "_law_r", "_law_plan", "_law_classes_here", "_law_before", "_law_make", "_law_told", "_law_due", "_law_k", "_law_row", "_law_one", "_law_j"], defScope (top 39), true, fun _ => false⟩ 6 (List.drop 2 (defBody (top 39))) [.imm (hD h), .imm (tI sk), .imm (tI left), .imm (.int w), .imm (.int r), .imm x, .un, .un, .un, .un, .un, .un, .un, .un, .un] (retC (.bool (gh (areM h.length sk w) plainR h sk r left x)))) :
    SDn ⟨g, k, ["_law_history_here", "_law_skipped", "_law_left", "_law_w", "_law_r", "_law_plan", "_law_classes_here", "_law_before", "_law_make", "_law_told", "_law_due", "_law_k", "_law_row", "_law_one", "_law_j"], defScope (top 39), true, fun _ => false⟩ 6 (defBody (top 39)) [.imm (hD h), .imm (tI sk), .imm (tI left), .imm (.int w), .imm (.int r), .imm x, .un, .un, .un, .un, .un, .un, .un, .un, .un] (retC (.bool (gh (areM h.length sk w) plainR h sk r left x))) := by
  obtain ⟨pb, prow⟩ := pd.b
  have h6 := ho.len
  have hcl := cls_len (h := h) (sk := sk)
  have ret : ∀ {b : Bool}, gh (areM h.length sk w) plainR h sk r left x = b → PyData.bool b = PyData.bool (gh (areM h.length sk w) plainR h sk r left x) := fun e => by rw [e]
  refine sdn_cut (fun δ1 => δ1 = [.imm (hD h), .imm (tI sk), .imm (tI left), .imm (.int w), .imm (.int r), .imm x, .un, .un, .un, .un, .un, .un, .un, .un, .un] ∧ ∃ s ys, x = .tuple (.str s :: ys) ∧ ys ≠ [] ∧ (s = "found" ∨ s = "round")) ?_ ?_
  · k_extra "go"
    refine ⟨nod_lay pb.shd.lay, ?_⟩
    k_extra "go"
    refine ⟨fun h1 => ?_, fun h1 => ?_⟩
    · obtain ⟨xs, rfl⟩ := isTup_ex (d := x) (by simpa using h1)
      k_extra "go"
      refine ⟨fun h2 => ?_, fun h2 => ?_⟩
      rotate_left
      · k_extra "go"
        have h2' := of_decide_eq_true h2
        exact ret (gh_len (by omega) (by omega))
      · have h2' := of_decide_eq_false h2
        obtain ⟨y, ys, rfl⟩ : ∃ y ys, xs = y :: ys := by
          cases xs with
          | nil => simp at h2'
          | cons y ys => exact ⟨y, ys, rfl⟩
        obtain ⟨s, rfl⟩ := pb.txt _ y rfl rfl
        have hys : ys ≠ [] := fun e => by subst e; simp at h2'
        k_extra "go"
        refine ⟨.str s, ix_T (atI_some (j := 0) rfl rfl), ?_⟩
        k_extra "go"
        refine ⟨_, o_niS (ns := ["found", "round"]), ?_⟩
        have e : (([("found" : Str), "round"].any (· == s))) = true ↔ (s = "found" ∨ s = "round") := by
          show ((("found" : Str) == s) || ((("round" : Str) == s) || false)) = true ↔ _
          rw [Bool.or_false, Bool.or_eq_true, beq_iff_eq, beq_iff_eq]
          exact ⟨fun z => z.imp Eq.symm Eq.symm, fun z => z.imp Eq.symm Eq.symm⟩
        refine ⟨fun h3 => ?_, fun h3 => ?_⟩
        · k_extra "go"
          rw [Bool.not_eq_true'] at h3
          have hn : ¬ (s = "found" ∨ s = "round") := fun z => by rw [e.mpr z] at h3; cases h3
          refine ret (gh_other ?_ (.inl ?_))
          · exact beq_eq_false_iff_ne.mpr fun z => hn (.inl z)
          · exact beq_eq_false_iff_ne.mpr fun z => hn (.inr z)
        · k_extra "go"
          exact ⟨s, ys, rfl, hys, e.mp (by rw [Bool.not_eq_false'] at h3; exact h3)⟩
    · k_extra "go"
      refine ret (gh_no fun xs e => ?_)
      subst e
      simp [isTup] at h1
  rintro δ1 ⟨rfl, s, ys, rfl, hys, hs⟩
  have hin := shd_in pb.shd
  have hy := hin (.str s) List.mem_cons_self
  have hxl := pb.len _ rfl
  have hsf : SeqAt.shaped (PyData.str "found") = true := (shd_str (n := 1) (by decide +kernel)).shaped (by omega)
  have hsr : SeqAt.shaped (PyData.str "round") = true := (shd_str (n := 1) (by decide +kernel)).shaped (by omega)
  refine sdn_cut (fun δ1 => δ1 = [.imm (hD h), .imm (tI sk), .imm (tI left), .imm (.int w), .imm (.int r), .imm (.tuple (.str s :: ys)), .un, .un, .un, .un, .un, .un, .un, .un, .un] ∧ s = "round") ?_ ?_
  · k_extra "go"
    refine ⟨.str s, ix_T (atI_some (j := 0) rfl rfl), ?_⟩
    k_extra "go"
    refine ⟨fun h3 => ?_, fun h3 => ?_⟩
    · have h3' : s = "found" := by simpa using h3
      have h3e : isS (.str s) "found" = true := by rw [h3']; decide +kernel
      k_extra "go"
      refine i_call B (by show j2 ≤ k; omega) (by k_extra "nm") ?_
      k_extra "go"
      refine ⟨_, ⟨h, sk, ho, rfl, rfl⟩, ?_⟩
      k_extra "go"
      refine ⟨fun h4 => ?_, fun h4 => ?_⟩
      rotate_left
      · k_extra "go"
        refine ret (gh_found h3e fun e => ?_)
        rw [e] at h4
        simp at h4
      have l2 : (PyData.str s :: ys).length = 2 := by
        have h4' : ((PyData.str s :: ys).length : Int) = 2 := by simpa using h4
        omega
      obtain ⟨z, rfl⟩ := one_of (xs := ys) (by simpa using l2)
      have hz := hin z (by simp)
      k_extra "go"
      refine i_call A (by show j1 ≤ k; omega) (by k_extra "nm") ?_
      k_extra "go"
      refine ⟨z, ix_T rfl, ?_⟩
      k_extra "go"
      refine ⟨_, ⟨z, nod_lay hz.lay, rfl, rfl⟩, ?_⟩
      k_extra "go"
      refine ⟨fun h5 => ?_, fun h5 => ?_⟩
      rotate_left
      · k_extra "go"
        refine ret ?_
        rw [gh2]
        cases z <;> simp [isInt] at h5 <;> simp
      obtain ⟨c, rfl⟩ := isInt_ex (d := z) (by simpa using h5)
      rw [gh2, h3e, Bool.true_and] at ret ⊢
      have hg : ∀ {b : Bool}, (decide (0 ≤ c ∧ c < ((cls h sk).length : Int)) && allIn left ((cls h sk).getD c.toNat [])) = b → PyData.bool b = PyData.bool (decide (0 ≤ c ∧ c < ((cls h sk).length : Int)) && allIn left ((cls h sk).getD c.toNat [])) := fun e => by rw [e]
      k_extra "go"
      refine ⟨.int c, ix_T rfl, ?_⟩
      k_extra "go"
      refine ⟨fun h6 => ?_, fun h6 => ?_⟩
      · k_extra "go"
        refine hg ?_
        rw [decide_eq_false (fun z => by have := of_decide_eq_false h6; omega), Bool.false_and]
      k_extra "go"
      rw [List.length_map]
      refine ⟨fun h7 => ?_, fun h7 => ?_⟩
      · k_extra "go"
        refine hg ?_
        have h7' : decide (c < ((cls h sk).length : Int)) = false := by simpa using h7
        rw [decide_eq_false (fun z => by have := of_decide_eq_false h7'; omega), Bool.false_and]
      have h6' := of_decide_eq_true h6
      have h7' : c < ((cls h sk).length : Int) := by simpa using h7
      have hcn : c.toNat < (cls h sk).length := by omega
      have hgc : (cls h sk)[c.toNat]? = some ((cls h sk).getD c.toNat []) := by rw [List.getD_eq_getElem?_getD, List.getElem?_eq_getElem hcn]; rfl
      k_extra "go"
      refine ev_lcg PyData.int [("_law_one", 13)] (by k_extra "nm") (ei_tup ?_)
      k_extra "go"
      refine ⟨fun a => !decide (a ∈ (cls h sk).getD c.toNat []), .int, fun a ha => ⟨_, tgc_name (by k_extra "lk") rfl (by k_extra "nm"), ?_⟩, ?_⟩
      · refine eif_one ?_
        k_extra "go"
        refine ⟨.int c, ix_T rfl, ?_⟩
        refine ⟨tI ((cls h sk).getD c.toNat []), ix_L (atI_some (j := c.toNat) (by omega) (by rw [List.getElem?_map, hgc]; rfl)), ?_⟩
        k_extra "go"
        intro _
        k_extra "go"
      k_extra "go"
      refine hg ?_
      rw [decide_eq_true ⟨h6', h7'⟩, Bool.true_and, Bool.eq_iff_iff, ← filter_all, decide_eq_true_eq]
      omega
    · k_extra "go"
      have h3' : ¬ s = "found" := by simpa using h3
      rcases hs with z | z
      · exact absurd z h3'
      · exact z
  rintro δ1 ⟨rfl, rfl⟩
  exact cont ys rfl
end
section
set_option autoImplicit false
theorem lh_mid {g : Ga} {k j1 : Nat} (W : Wb g) (A : CallOk g j1 "_law_is_int" (PureC 1 rIs)) (hj1 : j1 ≤ k)
    {h : Hist} {sk left : List Int} {w r : Nat} {ys : List D} (ho : HOk h) (hl : left.length ≤ 6) (hw : w ≤ 3) (pd : PD r (.tuple (.str "round" :: ys)))
    (cont : ∀ (msl : List Int) rs r' (b : Int), r = r' + 1 → ys = [tI msl, .tuple rs] → areM h.length sk w (tI msl) = true → msl ≠ [] → (msl.length : Int) ≤ w → (∀ m ∈ msl, 0 ≤ m ∧ m < (h.length : Int)) → msOf (tI msl) = msl →
      SDn ⟨g, k, ["_law_history_here", "_law_skipped", "_law_left", "_law_w", "_law_r", "_law_plan", "_law_classes_here", "_law_before", "_law_make", "_law_told", "_law_due", "_law_k", "_law_row", "_law_one", "_law_j"], defScope (top 39), true, fun _ => false⟩ 6 (List.drop 5 (defBody (top 39))) [.imm (hD h), .imm (tI sk), .imm (tI left), .imm (.int w), .imm (.int r), .imm (.tuple (.str "round" :: ys)), .un, .imm (.int b), .un, .un, .un, .un, .un, .un, .un] (retC (.bool (gh (areM h.length sk w) plainR h sk r left (.tuple (.str "round" :: ys)))))) :
    SDn ⟨g, k, ["_law_history_here", "_law_skipped", "_law_left", "_law_w", "_law_r", "_law_plan", "_law_classes_here", "_law_before", "_law_make", "_law_told", "_law_due", "_law_k", "_law_row", "_law_one", "_law_j"], defScope (top 39), true, fun _ => false⟩ 6 (List.drop 2 (defBody (top 39))) [.imm (hD h), .imm (tI sk), .imm (tI left), .imm (.int w), .imm (.int r), .imm (.tuple (.str "round" :: ys)), .un, .un, .un, .un, .un, .un, .un, .un, .un] (retC (.bool (gh (areM h.length sk w) plainR h sk r left (.tuple (.str "round" :: ys))))) := by
  obtain ⟨pb, prow⟩ := pd.b
  have h6 := ho.len
  have hin := shd_in pb.shd
  have hxl := pb.len _ rfl
  have hnf : isS (.str "round") "found" = false := by decide +kernel
  have hir : isS (.str "round") "round" = true := by decide +kernel
  have ret : ∀ {b : Bool}, gh (areM h.length sk w) plainR h sk r left (.tuple (.str "round" :: ys)) = b → PyData.bool b = PyData.bool (gh (areM h.length sk w) plainR h sk r left (.tuple (.str "round" :: ys))) := fun e => by rw [e]
  refine sdn_cut (fun δ1 => δ1 = [.imm (hD h), .imm (tI sk), .imm (tI left), .imm (.int w), .imm (.int r), .imm (.tuple (.str "round" :: ys)), .un, .un, .un, .un, .un, .un, .un, .un, .un] ∧ ∃ ms rs r', r = r' + 1 ∧ ys = [.tuple ms, .tuple rs] ∧ 1 ≤ ms.length ∧ (ms.length : Int) ≤ w) ?_ ?_
  · k_extra "go"
    refine ⟨fun h1 => ?_, fun h1 => ?_⟩
    rotate_left
    · k_extra "go"
      refine ret (gh_other hnf (.inr (.inl fun e => ?_)))
      rw [e] at h1
      simp at h1
    have l3 : (PyData.str "round" :: ys).length = 3 := by
      have h1' : ((PyData.str "round" :: ys).length : Int) = 3 := by simpa using h1
      omega
    obtain ⟨y', ms, rows, e3⟩ := three_of l3
    cases e3
    have hms := hin ms (by simp)
    have hrows := hin rows (by simp)
    k_extra "go"
    refine ⟨fun h2 => ?_, fun h2 => ?_⟩
    rotate_left
    · k_extra "go"
      exact ret (gh_other hnf (.inr (.inr (by have := of_decide_eq_true h2; omega))))
    obtain ⟨r', rfl⟩ : ∃ n, r = n + 1 := ⟨r - 1, by have := of_decide_eq_false h2; omega⟩
    rw [gh3, hir, Bool.true_and] at ret ⊢
    k_extra "go"
    refine ⟨ms, ix_T rfl, ?_⟩
    k_extra "go"
    refine ⟨nod_lay hms.lay, ?_⟩
    k_extra "go"
    refine ⟨fun h3 => ?_, fun h3 => ?_⟩
    rotate_left
    · k_extra "go"
      refine ret ?_
      rw [areM_no (by simpa using h3), Bool.false_and]
    obtain ⟨msd, rfl⟩ := isTup_ex (d := ms) (by simpa using h3)
    k_extra "go"
    refine ⟨rows, ix_T rfl, ?_⟩
    k_extra "go"
    refine ⟨nod_lay hrows.lay, ?_⟩
    k_extra "go"
    refine ⟨fun h4 => ?_, fun h4 => ?_⟩
    rotate_left
    · k_extra "go"
      refine ret ?_
      cases rows <;> simp [isTup] at h4 <;> simp
    obtain ⟨rs, rfl⟩ := isTup_ex (d := rows) (by simpa using h4)
    k_extra "go"
    refine ⟨.tuple msd, ix_T rfl, ?_⟩
    k_extra "go"
    refine ⟨fun h5 => ?_, fun h5 => ?_⟩
    · k_extra "go"
      refine ret ?_
      have e : areM h.length sk w (.tuple msd) = false := by
        show (decide _ && _) = _
        rw [decide_eq_false (fun z => by have := of_decide_eq_false h5; omega), Bool.false_and]
      rw [e, Bool.false_and]
    k_extra "go"
    refine ⟨fun h6 => ?_, fun h6 => ?_⟩
    · k_extra "go"
      refine ret ?_
      have e : areM h.length sk w (.tuple msd) = false := by
        show (decide _ && _) = _
        have h6' : decide ((msd.length : Int) ≤ w) = false := by simpa using h6
        rw [decide_eq_false (fun z => by have := of_decide_eq_false h6'; omega), Bool.false_and]
      rw [e, Bool.false_and]
    · k_extra "go"
      exact ⟨msd, rs, r', rfl, rfl, by have := of_decide_eq_true h5; omega, by simpa using h6⟩
  rintro δ1 ⟨rfl, ms, rs, r', rfl, rfl, hm1, hmw⟩
  have hms := hin (.tuple ms) (by simp)
  have hml := shd_in hms
  have hall : areM h.length sk w (.tuple ms) = okMs h.length sk (-1) ms := by
    show (decide _ && _) = _
    rw [decide_eq_true ⟨hm1, hmw⟩, Bool.true_and]
  k_extra "s"
  k_extra "s"
  k_extra "e"
  k_extra "e"
  k_extra "q"
  k_extra "st"
  have rz : okMs h.length sk (-1) ms = false → PyData.bool false = PyData.bool (gh (areM h.length sk w) plainR h sk (r' + 1) left (.tuple [.str "round", .tuple ms, .tuple rs])) := fun e => ret (by rw [gh3, hall, e, Bool.false_and, Bool.and_false])
  refine sdn_cons (sd_forg (fun (x : D) => x) (ei_tup ?_))
  k_extra "go"
  refine ⟨.tuple ms, ix_T rfl, ms, rfl, ms, (List.map_id' ms).symm, fun i δ => ∃ b, δ = [.imm (hD h), .imm (tI sk), .imm (tI left), .imm (.int w), .imm (.int (r' + 1 : Nat)), .imm (.tuple [.str "round", .tuple ms, .tuple rs]), .un, .imm (.int b), .un, .un, .un, .un, .un, .un, .un] ∧ okMs h.length sk (-1) ms = okMs h.length sk b (ms.drop i), ⟨_, by k_extra "wk", -1, rfl, rfl⟩, ?_, ?_⟩
  · rintro i x δ2 hx2 ⟨b, rfl, hb⟩
    have hil := (List.getElem?_eq_some_iff.mp hx2).1
    have hdr : ms.drop i = x :: ms.drop (i + 1) := by
      rw [List.drop_eq_getElem_cons hil]
      rw [List.getElem?_eq_getElem hil] at hx2
      rw [Option.some.inj hx2]
    rw [hdr] at hb
    have hxl := (hml x (List.mem_of_getElem? hx2)).lay
    refine ⟨[.imm (hD h), .imm (tI sk), .imm (tI left), .imm (.int w), .imm (.int (r' + 1 : Nat)), .imm (.tuple [.str "round", .tuple ms, .tuple rs]), .un, .imm (.int b), .imm x, .un, .un, .un, .un, .un, .un], tgd_name (by k_extra "lk") rfl (by k_extra "lo") (by k_extra "tp"), ?_⟩
    k_extra "go"
    refine i_call A hj1 (by k_extra "nm") ?_
    k_extra "go"
    refine ⟨_, ⟨x, nod_lay hxl, rfl, rfl⟩, ?_⟩
    k_extra "go"
    refine ⟨fun h4 => ?_, fun h4 => ?_⟩
    rotate_left
    · k_extra "go"
      refine rz ?_
      rw [hb, okMs_no (by simpa using h4)]
    obtain ⟨m, rfl⟩ := isInt_ex (d := x) (by simpa using h4)
    have hst : okMs h.length sk b (.int m :: ms.drop (i + 1)) = (decide (b < m ∧ m < (h.length : Int) ∧ m ∉ sk) && okMs h.length sk m (ms.drop (i + 1))) := rfl
    k_extra "go"
    refine ⟨fun h5 => ?_, fun h5 => ?_⟩
    · k_extra "go"
      refine rz ?_
      rw [hb, hst, decide_eq_false (fun z => by have := of_decide_eq_false h5; omega), Bool.false_and]
    k_extra "go"
    refine ⟨fun h6 => ?_, fun h6 => ?_⟩
    rotate_left
    · k_extra "go"
      refine rz ?_
      have h6' : decide (m < (h.length : Int)) = false := by simpa using h6
      rw [hb, hst, decide_eq_false (fun z => by have := of_decide_eq_false h6'; omega), Bool.false_and]
    k_extra "go"
    refine ⟨fun h7 => ?_, fun h7 => ?_⟩
    · k_extra "go"
      refine rz ?_
      rw [hb, hst, decide_eq_false (fun z => z.2.2 (of_decide_eq_true h7)), Bool.false_and]
    · k_extra "go"
      refine ⟨_, by k_extra "wk", m, rfl, ?_⟩
      rw [hb, hst, decide_eq_true (⟨of_decide_eq_true h5, by simpa using h6, of_decide_eq_false h7⟩), Bool.true_and]
  · rintro δ2 ⟨b, rfl, hb⟩
    rw [List.drop_length] at hb
    have am : areM h.length sk w (.tuple ms) = true := by rw [hall, hb]; rfl
    obtain ⟨msl, em, mne, mw, mrg, mof⟩ := areM_spec am
    have em2 : ms = msl.map .int := by injection em
    subst em2
    exact cont msl rs r' b rfl rfl am mne mw mrg mof
end
section
set_option autoImplicit false
theorem lh_tail {g : Ga} {k j3 R : Nat} (W : Wb g) (C : CallOk g j3 "_law_breaks" (PureC 3 rBrk)) (hj3 : j3 ≤ k)
    {h : Hist} {sk left msl : List Int} {w r : Nat} {rs : List D} {b : Int} (hrR : r + 1 ≤ R) (ih : CallOk g k "_law_holds" (PureC 6 (rLh (R - 1)))) (ho : HOk h) (hl : left.length ≤ 6) (hw : w ≤ 3) (pd : PD (r + 1) (.tuple [.str "round", tI msl, .tuple rs]))
    (am : areM h.length sk w (tI msl) = true) (mne : msl ≠ []) (mw : (msl.length : Int) ≤ w) (mrg : ∀ m ∈ msl, 0 ≤ m ∧ m < (h.length : Int)) (mof : msOf (tI msl) = msl) :
    SDn ⟨g, k, ["_law_history_here", "_law_skipped", "_law_left", "_law_w", "_law_r", "_law_plan", "_law_classes_here", "_law_before", "_law_make", "_law_told", "_law_due", "_law_k", "_law_row", "_law_one", "_law_j"], defScope (top 39), true, fun _ => false⟩ 6 (List.drop 5 (defBody (top 39))) [.imm (hD h), .imm (tI sk), .imm (tI left), .imm (.int w), .imm (.int (r + 1 : Nat)), .imm (.tuple [.str "round", tI msl, .tuple rs]), .un, .imm (.int b), .un, .un, .un, .un, .un, .un, .un] (retC (.bool (gh (areM h.length sk w) plainR h sk (r + 1) left (.tuple [.str "round", tI msl, .tuple rs])))) := by
  obtain ⟨pb, prow⟩ := pd.b
  have h6 := ho.len
  have hin := shd_in pb.shd
  have hir : isS (.str "round") "round" = true := by decide +kernel
  have hgh : gh (areM h.length sk w) plainR h sk (r + 1) left (.tuple [.str "round", tI msl, .tuple rs]) = (decide (rs.length = (ptsD h left msl).length) && rowsG plainR (gh (areM h.length sk w) plainR h sk r) rs (ptsD h left msl)) := by
    rw [gh3, hir, am, mof, Bool.true_and, Bool.true_and]
  rw [hgh]
  refine sdn_cons (sd_setC (ev_lcm PyData.int [("_law_one", 13)] (by k_extra "nm") (ei_tup ?_)) (by k_extra "nm") rfl)
  k_extra "go"
  refine ⟨fun c => tB (pat h msl c), fun c hc => ⟨_, tgc_nameC (by k_extra "lk") rfl (by k_extra "nm") (by k_extra "nm"), ?_⟩, ?_⟩
  · k_extra "go"
    refine ev_lcm PyData.int [("_law_make", 8)] (by k_extra "nm") (ei_tup ?_)
    k_extra "go"
    refine ⟨tI msl, ix_T rfl, msl.map .int, rfl, msl, rfl, by omega, fun m => .bool (brk h c m), fun m hm => ⟨_, tgc_name (by k_extra "lk") rfl (by k_extra "nm"), ?_⟩, ?_⟩
    · k_extra "go"
      refine i_call C (by show j3 ≤ k; omega) (by k_extra "nm") ?_
      k_extra "go"
      exact ⟨_, ⟨h, _, _, ho, (mrg m hm).1, (mrg m hm).2, rfl, rfl⟩, rfl, rfl⟩
    k_extra "go"
    have e : (msl.map fun m => PyData.bool (brk h c m)) = (pat h msl c).map .bool := by unfold pat; rw [List.map_map]; rfl
    rw [e]
    exact ⟨rfl, rfl⟩
  k_extra "st"
  refine sdn_cons (sd_set (i_ssB (by k_extra "nm") (by k_extra "bn") (by k_extra "nm") (by k_extra "bn") ?_) (by k_extra "lo") (by k_extra "tp"))
  k_extra "go"
  refine ⟨left.map (pat h msl), (ptT h left msl).map (·.1), by rw [List.map_map]; rfl, by rw [List.length_map]; omega, fun k hk => ?_, (grp_keys _ _).1, fun k => ?_, ?_⟩
  · obtain ⟨c, _, e⟩ := List.mem_map.mp hk
    rw [← e]
    unfold pat
    exact fun z => mne (List.map_eq_nil_iff.mp z)
  · rw [List.mem_map (f := pat h msl)]
    exact (grp_keys (pat h msl) left).2 k
  k_extra "st"
  change SDn _ _ _ [.imm (hD h), .imm (tI sk), .imm (tI left), .imm (.int w), .imm (.int (r + 1 : Nat)), .imm (.tuple [.str "round", tI msl, .tuple rs]), .un, .imm (.int b), .un, .imm (.list (left.map fun c => tB (pat h msl c))), .imm (.list ((due h left msl).map fun k => tB k)), .un, .un, .un, .un] _
  have hdl : (ptsD h left msl).length = (due h left msl).length := by unfold ptsD; rw [List.length_map]
  have hdl6 := pts_len (h := h) (left := left) (ch := msl)
  refine sdn_cut (fun δ1 => δ1 = [.imm (hD h), .imm (tI sk), .imm (tI left), .imm (.int w), .imm (.int (r + 1 : Nat)), .imm (.tuple [.str "round", tI msl, .tuple rs]), .un, .imm (.int b), .un, .imm (.list (left.map fun c => tB (pat h msl c))), .imm (.list ((due h left msl).map fun k => tB k)), .un, .un, .un, .un] ∧ rs.length = (due h left msl).length) ?_ ?_
  · k_extra "go"
    refine ⟨.tuple rs, ix_T rfl, ?_⟩
    k_extra "go"
    rw [List.length_map]
    refine ⟨fun h1 => ?_, fun h1 => ?_⟩
    · k_extra "go"
      rw [decide_eq_false (fun z => by rw [z, hdl] at h1; simp at h1), Bool.false_and]
    · k_extra "go"
      have h1' : ((rs.length : Nat) : Int) = ((due h left msl).length : Nat) := by simpa using h1
      omega
  rintro δ1 ⟨rfl, hrs⟩
  rw [decide_eq_true (hrs.trans hdl.symm), Bool.true_and]
  have ret : ∀ {b : Bool}, rowsG plainR (gh (areM h.length sk w) plainR h sk r) rs (ptsD h left msl) = b → PyData.bool b = PyData.bool (rowsG plainR (gh (areM h.length sk w) plainR h sk r) rs (ptsD h left msl)) := fun e => by rw [e]
  obtain ⟨hrl, hrb⟩ := prow _ rs rfl rfl
  have hrin := shd_in (hin (.tuple rs) (by simp))
  refine sdn_cons (sd_forg PyData.int ?_)
  k_extra "go"
  rw [List.length_map]
  refine ⟨by omega, by omega, upto (due h left msl).length, by rw [Int.toNat_natCast, rg_upto], fun i δ => δ = [.imm (hD h), .imm (tI sk), .imm (tI left), .imm (.int w), .imm (.int (r + 1 : Nat)), .imm (.tuple [.str "round", tI msl, .tuple rs]), .un, .imm (.int b), .un, .imm (.list (left.map fun c => tB (pat h msl c))), .imm (.list ((due h left msl).map fun k => tB k)), .un, .un, .un, .un] ∧ rowsG plainR (gh (areM h.length sk w) plainR h sk r) rs (ptsD h left msl) = rowsG plainR (gh (areM h.length sk w) plainR h sk r) (rs.drop i) ((ptsD h left msl).drop i), ⟨_, by k_extra "wk", rfl, rfl⟩, ?_, ?_⟩
  · rintro i x δ2 hx ⟨rfl, hb⟩
    obtain ⟨hi, rfl⟩ := upto_get hx
    obtain ⟨row, hrow⟩ : ∃ row, rs[i]? = some row := ⟨_, List.getElem?_eq_getElem (by omega)⟩
    obtain ⟨p, hp⟩ : ∃ p, (ptsD h left msl)[i]? = some p := ⟨_, List.getElem?_eq_getElem (by omega)⟩
    have hpd : (due h left msl)[i]? = some p.1 ∧ p.2 = partOf h left msl p.1 := by
      unfold ptsD at hp
      rw [List.getElem?_map] at hp
      cases e : (due h left msl)[i]? with
      | none => rw [e] at hp; cases hp
      | some kk => rw [e] at hp; cases hp; exact ⟨rfl, rfl⟩
    have hi1 : i < rs.length := by omega
    have hi2 : i < (ptsD h left msl).length := by omega
    have d1 : rs.drop i = row :: rs.drop (i + 1) := by
      rw [List.drop_eq_getElem_cons hi1]
      rw [List.getElem?_eq_getElem hi1] at hrow
      rw [Option.some.inj hrow]
    have d2 : (ptsD h left msl).drop i = p :: (ptsD h left msl).drop (i + 1) := by
      rw [List.drop_eq_getElem_cons hi2]
      rw [List.getElem?_eq_getElem hi2] at hp
      rw [Option.some.inj hp]
    have hb2 : rowsG plainR (gh (areM h.length sk w) plainR h sk r) rs (ptsD h left msl) = (plainR row p.1 && gh (areM h.length sk w) plainR h sk r p.2 (sndD row) && rowsG plainR (gh (areM h.length sk w) plainR h sk r) (rs.drop (i + 1)) ((ptsD h left msl).drop (i + 1))) := by
      rw [hb, d1, d2]; rfl
    have rm := List.mem_of_getElem? hrow
    have hrs60 := hrin row rm
    have rbb := hrb row rm
    have p1l : p.1.length = msl.length := by
      obtain ⟨c, _, ec⟩ := due_mem.mp (List.mem_of_getElem? hpd.1)
      rw [← ec]
      unfold pat
      rw [List.length_map]
    have no : plainR row p.1 = false → PyData.bool false = PyData.bool (rowsG plainR (gh (areM h.length sk w) plainR h sk r) rs (ptsD h left msl)) := fun e => ret (by rw [hb2, e, Bool.false_and, Bool.false_and])
    refine ⟨[.imm (hD h), .imm (tI sk), .imm (tI left), .imm (.int w), .imm (.int (r + 1 : Nat)), .imm (.tuple [.str "round", tI msl, .tuple rs]), .un, .imm (.int b), .un, .imm (.list (left.map fun c => tB (pat h msl c))), .imm (.list ((due h left msl).map fun k => tB k)), .imm (.int i), .un, .un, .un], tgd_name (by k_extra "lk") rfl (by k_extra "lo") (by k_extra "tp"), ?_⟩
    k_extra "go"
    refine ⟨.tuple rs, ix_T rfl, ?_⟩
    k_extra "go"
    refine ⟨row, ix_T (atI_some rfl hrow), ?_⟩
    k_extra "go"
    refine ⟨nod_lay hrs60.lay, ?_⟩
    k_extra "go"
    refine ⟨fun h1 => ?_, fun h1 => ?_⟩
    rotate_left
    · k_extra "go"
      refine no ?_
      cases row <;> simp [isTup] at h1 <;> rfl
    obtain ⟨rd, rfl⟩ := isTup_ex (d := row) (by simpa using h1)
    k_extra "go"
    refine ⟨fun h2 => ?_, fun h2 => ?_⟩
    rotate_left
    · k_extra "go"
      refine no ?_
      have hne : rd.length ≠ 2 := fun e => by rw [e] at h2; simp at h2
      match rd, hne with
      | [], _ => rfl
      | [z], _ => cases z <;> rfl
      | [z, q], hne => exact absurd rfl hne
      | z :: q :: u :: v, _ => cases z <;> rfl
    obtain ⟨z, q, rfl⟩ : ∃ z q, rd = [z, q] := by
      have h2' : (rd.length : Int) = 2 := by simpa using h2
      match rd, h2' with
      | [z, q], _ => exact ⟨z, q, rfl⟩
      | [], h => simp at h
      | [z], h => simp at h
      | z :: q :: u :: v, h => simp only [List.length_cons] at h; omega
    have hz := shd_in hrs60 z (by simp)
    have pdq : PD r q := pd.2 _ rs rfl rfl _ rm _ q rfl rfl
    k_extra "go"
    refine ⟨z, ix_T rfl, ?_⟩
    k_extra "go"
    refine ⟨nod_lay hz.lay, ?_⟩
    k_extra "go"
    refine ⟨fun h3 => ?_, fun h3 => ?_⟩
    rotate_left
    · k_extra "go"
      refine no ?_
      cases z <;> simp [isTup] at h3 <;> rfl
    obtain ⟨ts, rfl⟩ := isTup_ex (d := z) (by simpa using h3)
    have h01 : Sc01 ts := rbb.hd _ ts rfl rfl
    have h02 : Sc01 (p.1.map PyData.bool) := sc01_B (by omega)
    k_extra "go"
    refine i_bf (x := "repr") (id := "repr") (by k_extra "nm") (by k_extra "bn") (by decide +kernel) ?_
    k_extra "go"
    refine ⟨.tuple ts, ix_T rfl, ?_⟩
    k_extra "go"
    refine ⟨_, c_repr01 h01, ?_⟩
    refine i_bf (x := "repr") (id := "repr") (by k_extra "nm") (by k_extra "bn") (by decide +kernel) ?_
    k_extra "go"
    refine ⟨tB p.1, ix_L (atI_some rfl (by rw [List.getElem?_map, hpd.1]; rfl)), ?_⟩
    k_extra "go"
    refine ⟨_, c_repr01 h02, ?_⟩
    k_extra "go"
    refine ⟨fun h4 => ?_, fun h4 => ?_⟩
    · k_extra "go"
      refine no ?_
      show (bolsL ts == some p.1) = false
      rw [beq_eq_false_iff_ne]
      intro e
      have e2 := bolsL_some e
      subst e2
      simp at h4
    have hsh : (PyData.tuple ts).shown = (PyData.tuple (p.1.map .bool)).shown := by simpa using h4
    have hts := shown_inj h01 h02 hsh
    subst hts
    have hpl : plainR (.tuple [.tuple (p.1.map .bool), q]) p.1 = true := by
      show (bolsL _ == some p.1) = true
      rw [bolsL_map]; simp
    rw [hpl, Bool.true_and] at hb2
    k_extra "go"
    refine i_call ih (by show k ≤ k; omega) (by k_extra "nm") ?_
    k_extra "go"
    refine ev_lcg PyData.int [("_law_j", 14)] (by k_extra "nm") ?_
    k_extra "go"
    refine ⟨by omega, by omega, upto left.length, by rw [Int.toNat_natCast, rg_upto], by rw [upto_len]; omega, fun j => decide (pat h msl (atZ left j) = p.1), fun j => .int (atZ left j), fun j hj => ⟨_, tgc_name (by k_extra "lk") rfl (by k_extra "nm"), ?_⟩, ?_⟩
    · have hj' := upto_mem.mp hj
      have hg := atZ_get hj'.1 hj'.2
      refine eif_one ?_
      k_extra "go"
      refine ⟨tB (pat h msl (atZ left j)), ix_L (atI_some (j := j.toNat) (by omega) (by rw [List.getElem?_map, hg]; rfl)), ?_⟩
      k_extra "go"
      refine ⟨tB p.1, ix_L (atI_some rfl (by rw [List.getElem?_map, hpd.1]; rfl)), ?_⟩
      k_extra "go"
      refine ⟨_, o_eq (shd_tB.shaped (by omega)) (shd_tB.shaped (by omega)), ?_⟩
      refine ⟨by rw [Bool.eq_iff_iff, decide_eq_true_eq]; exact eqv_tB _ _, rfl, fun _ => ?_⟩
      k_extra "go"
      refine ⟨.int (atZ left j), ix_T (atI_some (j := j.toNat) (by omega) (by rw [List.getElem?_map, hg]; rfl)), ?_⟩
      k_extra "go"
    have hpt : ((upto left.length).filter fun j => decide (pat h msl (atZ left j) = p.1)).map (fun j => PyData.int (atZ left j)) = p.2.map .int := by
      rw [hpd.2]
      unfold partOf
      rw [← filter_atZ left (fun c => decide (pat h msl c = p.1)), List.map_map]; rfl
    rw [hpt]
    have p2l : p.2.length ≤ 6 := by
      rw [hpd.2]
      exact Nat.le_trans (List.length_filter_le _ _) hl
    k_extra "go"
    refine ⟨q, ix_T rfl, ?_⟩
    k_extra "go"
    refine ⟨_, ⟨h, sk, p.2, w, r, q, ho, p2l, hw, by omega, pdq, by rw [show ((r + 1 : Nat) : Int) - 1 = (r : Nat) by omega], rfl⟩, ?_⟩
    k_extra "go"
    refine ⟨fun h5 => ?_, fun h5 => ?_⟩
    · k_extra "go"
      refine ret ?_
      have h5' : gh (areM h.length sk w) plainR h sk r p.2 q = false := by simpa using h5
      rw [hb2]
      show (gh (areM h.length sk w) plainR h sk r p.2 q && _) = false
      rw [h5', Bool.false_and]
    · k_extra "go"
      refine ⟨_, by k_extra "wk", rfl, ?_⟩
      have h5' : gh (areM h.length sk w) plainR h sk r p.2 q = true := by simpa using h5
      rw [hb2]
      show (gh (areM h.length sk w) plainR h sk r p.2 q && _) = _
      rw [h5', Bool.true_and]
  · rintro δ2 ⟨rfl, hb⟩
    rw [upto_len, ← hrs, List.drop_length, hrs, ← hdl, List.drop_length] at hb
    k_extra "go"
    refine ret ?_
    rw [hb]; rfl
end
section
set_option autoImplicit false
theorem w_lholds_step {g : Ga} {k j1 j2 j3 : Nat} (W : Wb g) (A : CallOk g j1 "_law_is_int" (PureC 1 rIs)) (B : CallOk g j2 "_law_classes" (PureC 2 rLc)) (C : CallOk g j3 "_law_breaks" (PureC 3 rBrk))
    (hj1 : j1 ≤ k) (hj2 : j2 ≤ k) (hj3 : j3 ≤ k) (F : Fd g "_law_holds" 39 ["_law_history_here", "_law_skipped", "_law_left", "_law_w", "_law_r", "_law_plan"]) (R : Nat) (ih : 1 ≤ R → CallOk g (k + R) "_law_holds" (PureC 6 (rLh (R - 1)))) : CallOk g (k + R + 1) "_law_holds" (PureC 6 (rLh R)) := by
  refine mk_pure (N := ["_law_history_here", "_law_skipped", "_law_left", "_law_w", "_law_r", "_law_plan", "_law_classes_here", "_law_before", "_law_make", "_law_told", "_law_due", "_law_k", "_law_row", "_law_one", "_law_j"]) F ⟨rfl, rfl, rfl, by decide +kernel, rfl, by decide +kernel, by decide +kernel⟩ ?_
  rintro ds d - ⟨h, sk, left, w, r, x, ho, hl, hw, hr, pd, rfl, rfl⟩
  show SDn _ _ _ [.imm (hD h), .imm (tI sk), .imm (tI left), .imm (.int w), .imm (.int r), .imm x, .un, .un, .un, .un, .un, .un, .un, .un, .un] _
  refine lh_head W A B (by omega) (by omega) ho hl hw pd fun ys e => ?_
  subst e
  refine lh_mid W A (by omega) ho hl hw pd fun msl rs r' b er ey am mne mw mrg mof => ?_
  subst er ey
  exact lh_tail W C (by omega) hr (ih (by omega)) ho hl hw pd am mne mw mrg mof
theorem w_lholds {g : Ga} {k j1 j2 j3 : Nat} (W : Wb g) (A : CallOk g j1 "_law_is_int" (PureC 1 rIs)) (B : CallOk g j2 "_law_classes" (PureC 2 rLc)) (C : CallOk g j3 "_law_breaks" (PureC 3 rBrk))
    (hj1 : j1 ≤ k) (hj2 : j2 ≤ k) (hj3 : j3 ≤ k) (F : Fd g "_law_holds" 39 ["_law_history_here", "_law_skipped", "_law_left", "_law_w", "_law_r", "_law_plan"]) : ∀ R, CallOk g (k + R + 1) "_law_holds" (PureC 6 (rLh R)) := by
  intro R
  induction R with
  | zero => exact w_lholds_step W A B C hj1 hj2 hj3 F 0 (fun z => absurd z (by omega))
  | succ R ih => exact w_lholds_step W A B C hj1 hj2 hj3 F (R + 1) (fun _ => ih)
end
section
set_option autoImplicit false
/-! _law_agrees -/
def rAg (ds : List D) (d : D) : Prop := ∃ h sk w r x, HOk h ∧ w ≤ 3 ∧ r ≤ 8 ∧ PD r x ∧ ds = [hD h, tI sk, .int (w : Nat), .int (r : Nat), x] ∧ d = .bool true
theorem w_agrees {g : Ga} {k j1 j2 : Nat} (W : Wb g) (A : CallOk g j1 "judge_rounds" (PureC 5 (rJr 8))) (B : CallOk g j2 "_law_holds" (PureC 6 (rLh 8))) (hj1 : j1 ≤ k) (hj2 : j2 ≤ k) (F : Fd g "_law_agrees" 42 ["_law_history_here", "_law_skipped", "_law_w", "_law_r", "_law_plan"]) : CallOk g (k + 1) "_law_agrees" (PureC 5 rAg) := by
  refine mk_pure (N := ["_law_history_here", "_law_skipped", "_law_w", "_law_r", "_law_plan", "_law_told"]) F ⟨rfl, rfl, rfl, by decide +kernel, rfl, by decide +kernel, by decide +kernel⟩ ?_
  rintro ds d - ⟨h, sk, w, r, x, ho, hw, hr, pd, rfl, rfl⟩
  have h6 := ho.len
  show SDn _ _ _ [.imm (hD h), .imm (tI sk), .imm (.int w), .imm (.int r), .imm x, .un] _
  k_extra "go"
  refine i_call A hj1 (by k_extra "nm") ?_
  k_extra "go"
  refine ⟨_, ⟨h, sk, w, r, x, ho, by omega, hr, pd, rfl, rfl⟩, ?_⟩
  k_extra "go"
  refine ⟨fun _ h => (by cases h), ?_⟩
  k_extra "go"
  refine ⟨fun _ => ?_, fun h => (by cases h)⟩
  refine ev_and1 ?_
  k_extra "e"
  k_extra "e"
  refine i_call B hj2 (by k_extra "nm") ?_
  refine ai_cons ?_
  k_extra "e"
  refine ai_cons ?_
  k_extra "e"
  refine ai_cons (i_tupR (by k_extra "nm") (by k_extra "bn") (by k_extra "nm") (by k_extra "bn") ?_)
  k_extra "go"
  refine ⟨by omega, by omega, ?_⟩
  k_extra "go"
  rw [Int.toNat_natCast]
  refine ⟨_, ⟨h, sk, upto h.length, w, r, x, ho, by rw [upto_len]; exact h6, hw, hr, pd, rfl, rfl⟩, ?_⟩
  k_extra "go"
  rw [beq_self_eq_true]
end
section
set_option autoImplicit false
/-! _law_spoilt_rows, _law_spoilt -/
local macro_rules | `(tactic| k_extra "sz") => `(tactic| (simp only [sizeLine_eq, List.length_append, List.length_map, List.length_take, List.length_drop, List.length_cons, List.length_nil]; omega))
def rSp (n : Nat) (ds : List Int) (a : Nat) (as : List D) (d : D) (a' : Nat) : Prop := ∃ p, PlS n p ∧ as = [plD p] ∧ d = (spo ds n p a).1 ∧ a' = (spo ds n p a).2
def rSr (n : Nat) (ds : List Int) (a : Nat) (as : List D) (d : D) (a' : Nat) : Prop := ∃ rows, rows ≠ [] ∧ rows.length ≤ 6 ∧ (∀ q ∈ rows, q.1.length ≤ 3 ∧ PlS n q.2) ∧ as = [.tuple (rows.map plRow)] ∧ d = (spoR (spo ds n) ds rows a).1 ∧ a' = (spoR (spo ds n) ds rows a).2
theorem w_spoilt_rows {g : Ga} {k j1 n : Nat} (W : Wb g) (hn : n ≤ 15) (A : CallOk g j1 "_law_draw" (BoxC 1 rDraw)) (hj1 : j1 ≤ k) (ih : CallOk g k "_law_spoilt" (BoxC 1 (rSp n))) (F : Fd g "_law_spoilt_rows" 40 ["_law_box", "_law_rows"]) : CallOk g (k + 1) "_law_spoilt_rows" (BoxC 1 (rSr n)) := by
  refine mk_box (N := ["_law_box", "_law_rows", "_law_at", "_law_kind", "_law_pattern", "_law_part", "_law_told"]) F rfl ⟨rfl, rfl, rfl, by decide +kernel, rfl, by decide +kernel, by decide +kernel⟩ ?_
  rintro ds a as d a' - ⟨rows, ne, hl, hq, rfl, rfl, rfl⟩
  have hpos : 0 < rows.length := List.length_pos_iff.mpr ne
  have hlt := atR_lt (ds := ds) (a := a) hpos
  have R := rows_of hn hl hq
  have hdl : (rows.map plRow).length = rows.length := List.length_map ..
  show SDn _ _ _ [bxS ds a, .imm (.tuple (rows.map plRow)), .un, .un, .un, .un, .un] _
  k_extra "go"
  refine i_callB A hj1 (by k_extra "nm") (by k_extra "lk") rfl (by k_extra "vs") ?_
  k_extra "go"
  refine ⟨_, _, _, _, _, by k_extra "lk", ⟨900, by omega, rfl, rfl, rfl⟩, ?_⟩
  k_extra "go"
  · rw [hdl]; split <;> omega
  have hmx : (drw ds a 900 % if ((rows.map plRow).length : Int) > 1 then ((rows.map plRow).length : Int) else 1) = (atR ds a rows.length : Nat) := by
    have h1 := Int.emod_nonneg (drw ds a 900) (b := (rows.length : Int)) (by omega)
    rw [hdl]
    unfold atR
    split
    · omega
    · have e : (rows.length : Int) = 1 := by omega
      rw [e] at h1 ⊢
      omega
  rw [hmx]
  k_extra "st"
  have eq0 : PyData.eqv (.tuple (rows.map plRow)) (.tuple []) = false := by
    cases rows with
    | nil => exact absurd rfl ne
    | cons q r => simp [PyData.eqv, PyData.eqvAll]
  have hsh := R.shd
  have f0 : Shd 1 (.tuple [.str "found", .int 0]) := shd_tup (n := 0) (al1 shd_f (al1 shd_int al0))
  k_extra "go"
  refine i_callB A hj1 (by k_extra "nm") (by k_extra "lk") rfl (by k_extra "vs") ?_
  k_extra "go"
  refine ⟨_, _, _, _, _, by k_extra "lk", ⟨6, by omega, rfl, rfl, rfl⟩, ?_⟩
  k_extra "st"
  obtain ⟨q, hqe⟩ : ∃ q, rows[atR ds a rows.length]? = some q := ⟨_, List.getElem?_eq_getElem hlt⟩
  have hqm := hq q (List.mem_of_getElem? hqe)
  unfold spoR
  rw [hqe]
  dsimp only
  have hdq : (rows.map plRow)[atR ds a rows.length]? = some (plRow q) := by rw [List.getElem?_map, hqe]; rfl
  generalize atR ds a rows.length = t at *
  generalize drw ds (a + 1) 6 = kd
  refine sdn_cut (fun δ1 => δ1 = [bxS ds (a + 1 + 1), .imm (.tuple (rows.map plRow)), .imm (.int t), .imm (.int kd), .un, .un, .un] ∧ ¬ kd = 0) ?_ ?_
  · k_extra "go"
    refine ⟨_, o_eq (hsh.shaped (by omega)) (shd_nil_T.shaped (by omega)), ?_⟩
    rw [eq0]
    k_extra "go"
    refine ⟨fun h1 => ?_, fun h1 => ?_⟩
    · have h1' : kd = 0 := by simpa using h1
      rw [if_pos h1']
      k_extra "go"
      · exact ⟨_, rfl⟩
      · k_extra "sz"
    · have h1' : ¬ kd = 0 := by simpa using h1
      k_extra "go"
      exact h1'
  rintro δ1 ⟨rfl, n0⟩
  rw [if_neg n0]
  refine sdn_cut (fun δ1 => δ1 = [bxS ds (a + 1 + 1), .imm (.tuple (rows.map plRow)), .imm (.int t), .imm (.int kd), .un, .un, .un] ∧ ¬ kd = 1) ?_ ?_
  · k_extra "go"
    refine ⟨fun h1 => ?_, fun h1 => ?_⟩
    · have h1' : kd = 1 := by simpa using h1
      rw [if_pos h1']
      k_extra "go"
      refine ⟨_, sl_T (cut_to rfl), ?_⟩
      k_extra "go"
      refine ⟨_, sl_T (cut_from (p := t + 1) (by omega)), ?_⟩
      k_extra "go"
      · exact ⟨_, rfl⟩
      · k_extra "sz"
    · have h1' : ¬ kd = 1 := by simpa using h1
      k_extra "go"
      exact h1'
  rintro δ1 ⟨rfl, n1⟩
  rw [if_neg n1]
  refine sdn_cut (fun δ1 => δ1 = [bxS ds (a + 1 + 1), .imm (.tuple (rows.map plRow)), .imm (.int t), .imm (.int kd), .un, .un, .un] ∧ ¬ kd = 2) ?_ ?_
  · k_extra "go"
    refine ⟨fun h1 => ?_, fun h1 => ?_⟩
    · have h1' : kd = 2 := by simpa using h1
      rw [if_pos h1']
      k_extra "s"
      k_extra "s"
      refine ev_revT ?_
      k_extra "go"
      exact ⟨_, rfl⟩
    · have h1' : ¬ kd = 2 := by simpa using h1
      k_extra "go"
      exact h1'
  rintro δ1 ⟨rfl, n2⟩
  rw [if_neg n2]
  refine sdn_cons (sd_asg ?_)
  k_extra "go"
  refine ⟨plRow q, ix_T (atI_some rfl hdq), [bxS ds (a + 1 + 1), .imm (.tuple (rows.map plRow)), .imm (.int t), .imm (.int kd), .imm (tB q.1), .imm (plD q.2), .un], tgd_pair (by k_extra "lk") rfl (by k_extra "lk") rfl (by k_extra "lo") (by k_extra "lo") (.inl rfl), ?_⟩
  dsimp only
  refine sdn_cut (fun δ1 => δ1 = [bxS ds (a + 1 + 1), .imm (.tuple (rows.map plRow)), .imm (.int t), .imm (.int kd), .imm (tB q.1), .imm (plD q.2), .un] ∧ ¬ kd = 3) ?_ ?_
  · k_extra "go"
    refine ⟨fun h1 => ?_, fun h1 => ?_⟩
    · have h1' : kd = 3 := by simpa using h1
      rw [if_pos h1']
      k_extra "go"
      refine ⟨_, sl_T (cut_to rfl), ?_⟩
      k_extra "go"
      refine ev_lcm PyData.bool [("_law_told", 6)] (by k_extra "nm") (ei_tup ?_)
      k_extra "go"
      refine ⟨fun b => .int (b2i b), fun b hb => ⟨_, tgc_name (by k_extra "lk") rfl (by k_extra "nm"), ?_⟩, ?_⟩
      · k_extra "go"
      k_extra "go"
      rotate_left
      · k_extra "sz"
      refine ⟨_, sl_T (cut_from (p := t + 1) (by omega)), ?_⟩
      k_extra "go"
      rotate_left
      · k_extra "sz"
      refine ⟨?_, _, rfl⟩
      have e : (q.1.map fun b => PyData.int (b2i b)) = (q.1.map b2i).map .int := by rw [List.map_map]; rfl
      rw [e]
    · have h1' : ¬ kd = 3 := by simpa using h1
      k_extra "go"
      exact h1'
  rintro δ1 ⟨rfl, n3⟩
  rw [if_neg n3]
  refine sdn_cut (fun δ1 => δ1 = [bxS ds (a + 1 + 1), .imm (.tuple (rows.map plRow)), .imm (.int t), .imm (.int kd), .imm (tB q.1), .imm (plD q.2), .un] ∧ ¬ kd = 4) ?_ ?_
  · k_extra "go"
    refine ⟨fun h1 => ?_, fun h1 => ?_⟩
    · have h1' : kd = 4 := by simpa using h1
      rw [if_pos h1']
      k_extra "go"
      refine ⟨_, sl_T (cut_to rfl), ?_⟩
      k_extra "go"
      refine ⟨_, sl_T (cut_from (p := 1) rfl), ?_⟩
      k_extra "go"
      rotate_left
      · k_extra "sz"
      refine ⟨_, sl_T (cut_from (p := t + 1) (by omega)), ?_⟩
      k_extra "go"
      rotate_left
      · k_extra "sz"
      refine ⟨?_, _, rfl⟩
      have e : (q.1.map PyData.bool).drop 1 = (q.1.drop 1).map .bool := by rw [List.map_drop]
      rw [e]
    · have h1' : ¬ kd = 4 := by simpa using h1
      k_extra "go"
      exact h1'
  rintro δ1 ⟨rfl, n4⟩
  rw [if_neg n4]
  k_extra "go"
  refine ⟨_, sl_T (cut_to rfl), ?_⟩
  k_extra "go"
  refine i_callB ih (by show k ≤ k; omega) (by k_extra "nm") (by k_extra "lk") rfl (by k_extra "vs") ?_
  k_extra "go"
  refine ⟨_, _, _, _, _, by k_extra "lk", ⟨q.2, hqm.2, rfl, rfl, rfl⟩, ?_⟩
  k_extra "go"
  rotate_left
  · k_extra "sz"
  refine ⟨_, sl_T (cut_from (p := t + 1) (by omega)), ?_⟩
  k_extra "go"
  rotate_left
  · k_extra "sz"
  exact ⟨_, rfl⟩
end
section
set_option autoImplicit false
local macro_rules | `(tactic| k_extra "sz") => `(tactic| (simp only [sizeLine_eq, List.length_append, List.length_map, List.length_take, List.length_drop, List.length_cons, List.length_nil]; omega))
theorem cut_last {α : Type} {xs : List α} {x : α} : cutD (xs ++ [x]) (some (-1)) none = [x] := by
  unfold cutD
  have h0 : HT.sIx (xs ++ [x]).length 0 (some (-1)) = xs.length := by
    show (if (-1 : Int) < 0 then ((-1 : Int) + ((xs ++ [x]).length : Int)).toNat else min (-1 : Int).toNat (xs ++ [x]).length) = _
    rw [if_pos (by decide), List.length_append, List.length_singleton]
    omega
  rw [h0, List.drop_left]
  show [x].take ((xs ++ [x]).length - xs.length) = _
  rw [List.length_append, List.length_singleton, Nat.add_sub_cancel_left]
  rfl
theorem cut_init {α : Type} {xs : List α} {x : α} : cutD (xs ++ [x]) none (some (-1)) = xs := by
  unfold cutD
  have h0 : HT.sIx (xs ++ [x]).length (xs ++ [x]).length (some (-1)) = xs.length := by
    show (if (-1 : Int) < 0 then ((-1 : Int) + ((xs ++ [x]).length : Int)).toNat else min (-1 : Int).toNat (xs ++ [x]).length) = _
    rw [if_pos (by decide), List.length_append, List.length_singleton]
    omega
  rw [h0]
  show ((xs ++ [x]).drop 0).take (xs.length - 0) = _
  rw [List.drop_zero, Nat.sub_zero, List.take_left]
theorem at_last {α : Type} {xs : List α} {x : α} : atI (xs ++ [x]) (-1) = some x := by
  unfold atI ixN
  rw [if_neg (by decide), if_pos (by rw [List.length_append, List.length_singleton]; omega)]
  have e : (-1 + ((xs ++ [x]).length : Int)).toNat = xs.length := by rw [List.length_append, List.length_singleton]; omega
  rw [e]
  show (xs ++ [x])[xs.length]? = some x
  rw [List.getElem?_append_right (Nat.le_refl _), Nat.sub_self]; rfl
theorem w_spoilt {g : Ga} {k j1 j2 n : Nat} (W : Wb g) (hn : n ≤ 15) (A : CallOk g j1 "_law_draw" (BoxC 1 rDraw)) (B : CallOk g j2 "_law_pick" (BoxC 1 rPick)) (hj1 : j1 ≤ k) (hj2 : j2 ≤ k) (ih : ∀ m, n = m + 1 → CallOk g k "_law_spoilt_rows" (BoxC 1 (rSr m))) (F : Fd g "_law_spoilt" 41 ["_law_box", "_law_plan"]) : CallOk g (k + 1) "_law_spoilt" (BoxC 1 (rSp n)) := by
  refine mk_box (N := ["_law_box", "_law_plan", "_law_kind", "_law_makes"]) F rfl ⟨rfl, rfl, rfl, by decide +kernel, rfl, by decide +kernel, by decide +kernel⟩ ?_
  rintro ds a as d a' - ⟨p, hp, rfl, rfl, rfl⟩
  show SDn _ _ _ [bxS ds a, .imm (plD p), .un, .un] _
  k_extra "go"
  refine i_callB A hj1 (by k_extra "nm") (by k_extra "lk") rfl (by k_extra "vs") ?_
  k_extra "go"
  refine ⟨_, _, _, _, _, by k_extra "lk", ⟨5, by omega, rfl, rfl, rfl⟩, ?_⟩
  k_extra "st"
  cases p with
  | found c =>
    rw [plD_found]
    have e : spo ds n (.found c) a = (pk (fndL c) ds (a + 1), a + 2) := by cases n <;> rfl
    rw [e]
    k_extra "go"
    refine ⟨.str "found", ix_T rfl, ?_⟩
    k_extra "go"
    refine ⟨fun _ => ?_, fun h => absurd h (by decide +kernel)⟩
    k_extra "go"
    refine i_callB B hj2 (by k_extra "nm") (by k_extra "lk") rfl (by k_extra "vs") ?_
    k_extra "go"
    refine ⟨.int c, ix_T rfl, ?_⟩
    k_extra "go"
    refine ⟨.int c, ix_T rfl, ?_⟩
    k_extra "go"
    refine ⟨_, _, _, _, _, by k_extra "lk", ⟨fndL c, by simp [fndL], rfl, rfl, rfl⟩, ?_⟩
    k_extra "go"
    exact ⟨_, rfl⟩
  | round ms rows =>
    cases n with
    | zero => exact absurd hp (by unfold PlS; exact id)
    | succ n =>
      obtain ⟨h1, h2, h3, h4, h5⟩ := hp
      obtain ⟨us, u, rfl⟩ : ∃ us u, ms = us ++ [u] := by
        rcases List.eq_nil_or_concat ms with z | ⟨us, u, z⟩
        · exact absurd z h1
        · exact ⟨us, u, by rw [z, List.concat_eq_append]⟩
      have hus : us.length ≤ 3 := by rw [List.length_append] at h2; omega
      have hm : tI (us ++ [u]) = .tuple (us.map .int ++ [.int u]) := by simp [tI]
      rw [plD_round, hm]
      unfold spo
      generalize drw ds a 5 = kd
      refine sdn_cut (fun δ1 => δ1 = [bxS ds (a + 1), .imm (.tuple [.str "round", .tuple (us.map .int ++ [.int u]), .tuple (rows.map plRow)]), .imm (.int kd), .un]) ?_ ?_
      · k_extra "go"
        refine ⟨.str "round", ix_T rfl, ?_⟩
        k_extra "go"
        refine ⟨fun h => absurd h (by decide +kernel), fun _ => ?_⟩
        k_extra "go"
      rintro δ1 rfl
      refine sdn_cut (fun δ1 => δ1 = [bxS ds (a + 1), .imm (.tuple [.str "round", .tuple (us.map .int ++ [.int u]), .tuple (rows.map plRow)]), .imm (.int kd), .un] ∧ ¬ kd = 0) ?_ ?_
      · k_extra "go"
        refine ⟨fun h => ?_, fun h => ?_⟩
        · have h' : kd = 0 := by simpa using h
          rw [if_pos h']
          k_extra "go"
          refine i_callB B hj2 (by k_extra "nm") (by k_extra "lk") rfl (by k_extra "vs") ?_
          k_extra "go"
          refine ⟨.tuple (us.map .int ++ [.int u]), ix_T rfl, ?_⟩
          k_extra "go"
          refine ⟨.tuple (us.map .int ++ [.int u]), ix_T rfl, ?_⟩
          k_extra "go"
          refine ⟨_, sl_T cut_last, ?_⟩
          k_extra "go"
          rotate_left
          · k_extra "sz"
          refine ⟨.tuple (us.map .int ++ [.int u]), ix_T rfl, ?_⟩
          k_extra "go"
          refine ⟨_, sl_T cut_init, ?_⟩
          k_extra "go"
          refine ⟨.tuple (us.map .int ++ [.int u]), ix_T rfl, ?_⟩
          k_extra "go"
          refine ⟨.tuple (us.map .int ++ [.int u]), ix_T rfl, ?_⟩
          k_extra "go"
          refine ⟨.int u, ix_T at_last, ?_⟩
          k_extra "go"
          rotate_left
          · k_extra "sz"
          refine ⟨.tuple (us.map .int ++ [.int u]), ix_T rfl, ?_⟩
          k_extra "go"
          rotate_left
          · k_extra "sz"
          refine ⟨.tuple (us.map .int ++ [.int u]), ix_T rfl, ?_⟩
          k_extra "go"
          have hg : (us ++ [u]).getLastD 0 = u := by simp [List.getLastD_eq_getLast?]
          refine ⟨_, _, _, _, _, by k_extra "lk", ⟨mksL (us ++ [u]), by simp [mksL], by unfold mksL; rw [hg]; simp [tI], rfl, rfl⟩, ?_⟩
          k_extra "go"
          refine ⟨.tuple (rows.map plRow), ix_T rfl, ?_⟩
          k_extra "go"
          exact ⟨_, rfl⟩
        · have h' : ¬ kd = 0 := by simpa using h
          k_extra "go"
          exact h'
      rintro δ1 ⟨rfl, n0⟩
      rw [if_neg n0]
      refine sdn_cut (fun δ1 => δ1 = [bxS ds (a + 1), .imm (.tuple [.str "round", .tuple (us.map .int ++ [.int u]), .tuple (rows.map plRow)]), .imm (.int kd), .un] ∧ ¬ kd = 1) ?_ ?_
      · k_extra "go"
        refine ⟨fun h => ?_, fun h => ?_⟩
        · have h' : kd = 1 := by simpa using h
          rw [if_pos h']
          k_extra "go"
          refine i_callB B hj2 (by k_extra "nm") (by k_extra "lk") rfl (by k_extra "vs") ?_
          k_extra "go"
          refine ⟨_, sl_T (cut_from (p := 1) rfl), ?_⟩
          k_extra "go"
          rotate_left
          · simp only [sizeLine_eq, List.length_drop, List.length_cons, List.length_nil]; omega
          refine ⟨_, sl_T (cut_to (p := 2) rfl), ?_⟩
          k_extra "go"
          rotate_left
          · k_extra "sz"
          refine ⟨_, _, _, _, _, by k_extra "lk", ⟨othL (us ++ [u]) (rows.map plRow), by simp [othL], by unfold othL; rw [hm]; rfl, rfl, rfl⟩, ?_⟩
          k_extra "go"
          exact ⟨_, rfl⟩
        · have h' : ¬ kd = 1 := by simpa using h
          k_extra "go"
          exact h'
      rintro δ1 ⟨rfl, n1⟩
      rw [if_neg n1]
      k_extra "go"
      refine ⟨.tuple (us.map .int ++ [.int u]), ix_T rfl, ?_⟩
      k_extra "go"
      refine i_callB (ih n rfl) (by show k ≤ k; omega) (by k_extra "nm") (by k_extra "lk") rfl (by k_extra "vs") ?_
      k_extra "go"
      refine ⟨.tuple (rows.map plRow), ix_T rfl, ?_⟩
      k_extra "go"
      refine ⟨_, _, _, _, _, by k_extra "lk", ⟨rows, h3, h4, h5, rfl, rfl, rfl⟩, ?_⟩
      k_extra "go"
      rw [hm]
      exact ⟨rfl, _, rfl⟩
end
section
set_option autoImplicit false
/-! _law_parents -/
def parL (ds : List Int) (a : Nat) (k : Int) (ends : List Int) : List Int × Nat :=
  if 2 < ends.length then ((ends.drop (drw ds a (ends.length - 1)).toNat).take 2, a + 1)
  else if drw ds a 6 = 0 then ([], a + 1)
  else (if drw ds (a + 1) k = drw ds (a + 2) k then [drw ds (a + 1) k] else sortI [drw ds (a + 1) k, drw ds (a + 2) k], a + 3)
theorem drw_rg {ds : List Int} {a : Nat} {m : Int} (h : 0 < m) : 0 ≤ drw ds a m ∧ drw ds a m < m := by
  unfold drw
  split
  · exact ⟨Int.emod_nonneg _ (by omega), Int.emod_lt_of_pos _ h⟩
  · omega
theorem ss_two {x y : Int} {zs : List Int} (pw : zs.Pairwise (· < ·)) (mem : ∀ k, k ∈ zs ↔ k ∈ [x, y]) : zs = if x = y then [x] else sortI [x, y] := by
  have nd : zs.Nodup := pw.imp fun h e => by omega
  have ple : zs.Pairwise (· ≤ ·) := pw.imp fun h => by omega
  split
  · next e =>
    subst e
    have p : zs.Perm [x] := (List.perm_ext_iff_of_nodup nd (by simp)).mpr fun k => by rw [mem k]; simp
    exact List.perm_singleton.mp p
  · next e =>
    exact sortI_eq ((List.perm_ext_iff_of_nodup nd (by simp [e])).mpr fun k => by rw [mem k]) ple
def rPar (ds : List Int) (a : Nat) (as : List D) (d : D) (a' : Nat) : Prop := ∃ k ends, 0 < k ∧ ends.length ≤ 6 ∧ as = [.int k, lI ends] ∧ d = tI (parL ds a k ends).1 ∧ a' = (parL ds a k ends).2
theorem w_parents {g : Ga} {k j1 : Nat} (W : Wb g) (A : CallOk g j1 "_law_draw" (BoxC 1 rDraw)) (hj1 : j1 ≤ k) (F : Fd g "_law_parents" 32 ["_law_box", "_law_k", "_law_ends"]) : CallOk g (k + 1) "_law_parents" (BoxC 2 rPar) := by
  refine mk_box (N := ["_law_box", "_law_k", "_law_ends", "_law_at", "_law_one", "_law_other"]) F rfl ⟨rfl, rfl, rfl, by decide +kernel, rfl, by decide +kernel, by decide +kernel⟩ ?_
  rintro ds a as d a' - ⟨m, ends, hm, hl, rfl, rfl, rfl⟩
  show SDn _ _ _ [bxS ds a, .imm (.int m), .imm (lI ends), .un, .un, .un] _
  k_extra "go"
  refine ⟨fun h1 => ?_, fun h1 => ?_⟩
  · have h1' := of_decide_eq_true h1
    have hp : parL ds a m ends = ((ends.drop (drw ds a (ends.length - 1)).toNat).take 2, a + 1) := if_pos (by omega)
    rw [hp]
    have d0 := drw_rg (ds := ds) (a := a) (m := (ends.length : Int) - 1) (by omega)
    k_extra "go"
    refine i_callB A hj1 (by k_extra "nm") (by k_extra "lk") rfl (by k_extra "vs") ?_
    k_extra "go"
    refine ⟨_, _, _, _, _, by k_extra "lk", ⟨(ends.length : Int) - 1, by omega, rfl, rfl, rfl⟩, ?_⟩
    k_extra "go"
    have hc : cutD (ends.map PyData.int) (some (drw ds a ((ends.length : Int) - 1))) (some (drw ds a ((ends.length : Int) - 1) + 2)) = ((ends.drop (drw ds a ((ends.length : Int) - 1)).toNat).take 2).map PyData.int := by
      obtain ⟨p, hp⟩ : ∃ p : Nat, drw ds a ((ends.length : Int) - 1) = p := ⟨_, (Int.toNat_of_nonneg d0.1).symm⟩
      rw [hp] at d0 ⊢
      unfold cutD
      rw [show ((p : Int) + 2) = ((p + 2 : Nat) : Int) by omega, HT.sIx_nat, HT.sIx_nat, List.length_map, Nat.min_eq_left (by omega), Nat.min_eq_left (by omega), Int.toNat_natCast, List.map_take, List.map_drop, show p + 2 - p = 2 by omega]
    refine ⟨_, sl_L hc, ?_⟩
    k_extra "go"
    exact ⟨_, rfl⟩
  · have h1' := of_decide_eq_false h1
    k_extra "go"
    refine i_callB A hj1 (by k_extra "nm") (by k_extra "lk") rfl (by k_extra "vs") ?_
    k_extra "go"
    refine ⟨_, _, _, _, _, by k_extra "lk", ⟨6, by omega, rfl, rfl, rfl⟩, ?_⟩
    k_extra "go"
    refine ⟨fun h2 => ?_, fun h2 => ?_⟩
    · have h2' : drw ds a 6 = 0 := by simpa using h2
      have hp : parL ds a m ends = ([], a + 1) := by
        unfold parL
        rw [if_neg (by omega), if_pos h2']
      rw [hp]
      k_extra "go"
      exact ⟨_, rfl⟩
    · have h2' : ¬ drw ds a 6 = 0 := by simpa using h2
      have hp : parL ds a m ends = (if drw ds (a + 1) m = drw ds (a + 2) m then [drw ds (a + 1) m] else sortI [drw ds (a + 1) m, drw ds (a + 2) m], a + 3) := by
        unfold parL
        rw [if_neg (by omega), if_neg h2']
      rw [hp]
      k_extra "go"
      refine i_callB A hj1 (by k_extra "nm") (by k_extra "lk") rfl (by k_extra "vs") ?_
      k_extra "go"
      refine ⟨_, _, _, _, _, by k_extra "lk", ⟨m, by omega, rfl, rfl, rfl⟩, ?_⟩
      k_extra "go"
      refine i_callB A hj1 (by k_extra "nm") (by k_extra "lk") rfl (by k_extra "vs") ?_
      k_extra "go"
      refine ⟨_, _, _, _, _, by k_extra "lk", ⟨m, by omega, rfl, rfl, rfl⟩, ?_⟩
      k_extra "go"
      refine i_ssI (by k_extra "nm") (by k_extra "bn") (by k_extra "nm") (by k_extra "bn") ?_
      k_extra "go"
      refine ⟨[drw ds (a + 1) m, drw ds (a + 2) m], _, rfl, by simp, fun zs pw mem => ss_two pw mem, ?_⟩
      k_extra "go"
      exact ⟨_, rfl⟩
end
section
set_option autoImplicit false
/-! _law_history -/
def lett (k : Nat) : Str := ⟨#[97 + k]⟩
def hisP (ds : List Int) (many k : Nat) (s : List Int × Hist × Nat) : List Int × Nat :=
  if k + 1 = many then (s.1, s.2.2) else if 0 < k then parL ds s.2.2 k s.1 else ([], s.2.2)
def hisK (ds : List Int) (a many : Nat) : Nat → List Int × Hist × Nat
  | 0 => ([], [], a)
  | k + 1 => ((hisK ds a many k).1.filter (fun e => !decide (e ∈ (hisP ds many k (hisK ds a many k)).1)) ++ [(k : Int)], (hisK ds a many k).2.1 ++ [("v" ++ lett k, (hisP ds many k (hisK ds a many k)).1)], (hisP ds many k (hisK ds a many k)).2)
structure HisOk (k : Nat) (s : List Int × Hist × Nat) : Prop where
  el : s.1.length ≤ k
  eb : ∀ x ∈ s.1, 0 ≤ x ∧ x < (k : Int)
  hl : s.2.1.length = k
  par : ∀ p ∈ s.2.1, p.2.length ≤ 6
  low : ∀ (j : Nat) p, s.2.1[j]? = some p → ∀ q ∈ p.2, 0 ≤ q ∧ q < j
theorem parL_ok {ds : List Int} {a k : Nat} {ends : List Int} (hk : 0 < k) (hl : ends.length ≤ 6) (hb : ∀ x ∈ ends, 0 ≤ x ∧ x < (k : Int)) : (parL ds a k ends).1.length ≤ 6 ∧ ∀ x ∈ (parL ds a k ends).1, 0 ≤ x ∧ x < (k : Int) := by
  unfold parL
  split
  · refine ⟨by simp only [List.length_take]; omega, fun x hx => hb x (List.mem_of_mem_drop (List.mem_of_mem_take hx))⟩
  · split
    · exact ⟨by simp, by simp⟩
    · have r1 := drw_rg (ds := ds) (a := a + 1) (m := k) (by omega)
      have r2 := drw_rg (ds := ds) (a := a + 2) (m := k) (by omega)
      try dsimp only
      split
      · exact ⟨by simp, fun x hx => by rw [List.mem_singleton] at hx; rw [hx]; exact r1⟩
      · refine ⟨by rw [sortI_len]; simp, fun x hx => ?_⟩
        rw [sortI_mem] at hx
        rcases List.mem_cons.mp hx with hx | hx
        · rw [hx]; exact r1
        · rw [List.mem_singleton] at hx; rw [hx]; exact r2
theorem hisP_ok {ds : List Int} {many k : Nat} {s : List Int × Hist × Nat} (o : HisOk k s) (h6 : k < 6) : (hisP ds many k s).1.length ≤ 6 ∧ ∀ x ∈ (hisP ds many k s).1, 0 ≤ x ∧ x < (k : Int) := by
  have := o.el
  unfold hisP
  split
  · exact ⟨by show s.1.length ≤ 6; omega, o.eb⟩
  · split
    · exact parL_ok (by omega) (by omega) o.eb
    · exact ⟨by simp, by simp⟩
theorem hisK_ok {ds : List Int} {a many : Nat} : ∀ k, k ≤ 6 → HisOk k (hisK ds a many k)
  | 0, _ => ⟨by simp [hisK], by simp [hisK], by simp [hisK], by simp [hisK], by simp [hisK]⟩
  | k + 1, h6 => by
    have o := hisK_ok (ds := ds) (a := a) (many := many) k (by omega)
    obtain ⟨p1, p2⟩ := hisP_ok (ds := ds) (many := many) o (by omega)
    unfold hisK
    generalize hisK ds a many k = s at *
    refine ⟨?_, ?_, ?_, ?_, ?_⟩
    · have := List.length_filter_le (fun e => !decide (e ∈ (hisP ds many k s).1)) s.1
      have := o.el
      simp only [List.length_append, List.length_singleton]; omega
    · intro x hx
      rcases List.mem_append.mp hx with hx | hx
      · have := o.eb x (List.mem_filter.mp hx).1
        omega
      · rw [List.mem_singleton] at hx
        omega
    · simp only [List.length_append, List.length_singleton, o.hl]
    · intro p hp
      rcases List.mem_append.mp hp with hp | hp
      · exact o.par p hp
      · rw [List.mem_singleton] at hp; rw [hp]; exact p1
    · intro j p hp
      by_cases c : j < k
      · rw [List.getElem?_append_left (by rw [o.hl]; exact c)] at hp
        exact o.low j p hp
      · by_cases e : j = k
        · subst e
          rw [List.getElem?_append_right (by rw [o.hl]; omega), o.hl, Nat.sub_self, List.getElem?_cons_zero] at hp
          cases hp
          exact p2
        · rw [List.getElem?_eq_none (by simp only [List.length_append, List.length_singleton, o.hl]; omega)] at hp
          cases hp
theorem lI_snoc {A : List Int} {x : Int} : lI (A ++ [x]) = .list (A.map PyData.int ++ [.int x]) := by
  show PyData.list _ = _
  rw [List.map_append]; rfl
def manyH (ds : List Int) (a : Nat) : Nat := (1 + drw ds a 6).toNat
def rHis (ds : List Int) (a : Nat) (as : List D) (d : D) (a' : Nat) : Prop := as = [.int 6] ∧ d = hD (hisK ds (a + 1) (manyH ds a) (manyH ds a)).2.1 ∧ a' = (hisK ds (a + 1) (manyH ds a) (manyH ds a)).2.2
theorem lett_get {k : Nat} (h : k < 6) : atI (Str.ofString "abcdefghijklmnopqrstuvwx").cps.toList (k : Int) = some (97 + k) := by
  rcases k with _ | _ | _ | _ | _ | _ | k
  iterate 6 decide +kernel
  omega
theorem w_history {g : Ga} {k j1 j2 : Nat} (W : Wb g) (A : CallOk g j1 "_law_draw" (BoxC 1 rDraw)) (B : CallOk g j2 "_law_parents" (BoxC 2 rPar)) (hj1 : j1 ≤ k) (hj2 : j2 ≤ k) (F : Fd g "_law_history" 33 ["_law_box", "_law_most"]) : CallOk g (k + 1) "_law_history" (BoxC 1 rHis) := by
  refine mk_box (N := ["_law_box", "_law_most", "_law_many", "_law_makes", "_law_ends", "_law_k", "_law_parents_here", "_law_end"]) F rfl ⟨rfl, rfl, rfl, by decide +kernel, rfl, by decide +kernel, by decide +kernel⟩ ?_
  rintro ds a as d a' - ⟨rfl, rfl, rfl⟩
  have r6 := drw_rg (ds := ds) (a := a) (m := 6) (by omega)
  have hm : (1 + drw ds a 6) = (manyH ds a : Nat) := by unfold manyH; omega
  have hm6 : manyH ds a ≤ 6 := by omega
  show SDn _ _ _ [bxS ds a, .imm (.int 6), .un, .un, .un, .un, .un, .un] _
  k_extra "go"
  refine i_callB A hj1 (by k_extra "nm") (by k_extra "lk") rfl (by k_extra "vs") ?_
  k_extra "go"
  refine ⟨_, _, _, _, _, by k_extra "lk", ⟨6, by omega, rfl, rfl, rfl⟩, ?_⟩
  k_extra "o"
  rw [hm]
  generalize manyH ds a = n at *
  iterate 7 k_extra "go1"
  refine sd_set ?_ (by k_extra "lo") (by k_extra "tp")
  iterate 5 k_extra "go1"
  refine sd_forg PyData.int ?_
  k_extra "go"
  refine ⟨by omega, by omega, upto n, by rw [Int.toNat_natCast, rg_upto], fun i δ => δ = [bxS ds (hisK ds (a + 1) n i).2.2, .imm (.int 6), .imm (.int n), .lst ((hisK ds (a + 1) n i).2.1.map rowD), .imm (lI (hisK ds (a + 1) n i).1), .un, .un, .un], ⟨_, by k_extra "wk", rfl⟩, ?_, ?_⟩
  · rintro i x δ2 hx rfl
    obtain ⟨hi, rfl⟩ := upto_get hx
    have o := hisK_ok (ds := ds) (a := a + 1) (many := n) i (by omega)
    have hpo := hisP_ok (ds := ds) (many := n) o (by omega)
    have oel := o.el
    refine ⟨[bxS ds (hisK ds (a + 1) n i).2.2, .imm (.int 6), .imm (.int n), .lst ((hisK ds (a + 1) n i).2.1.map rowD), .imm (lI (hisK ds (a + 1) n i).1), .imm (.int i), .un, .un], tgd_name (by k_extra "lk") rfl (by k_extra "lo") (by k_extra "tp"), ?_⟩
    k_extra "go"
    refine ⟨fun h1 => ?_, fun h1 => ?_⟩
    · have h1' : ((i : Nat) : Int) = (n : Int) - 1 := by simpa using h1
      have hp : hisP ds n i (hisK ds (a + 1) n i) = ((hisK ds (a + 1) n i).1, (hisK ds (a + 1) n i).2.2) := if_pos (by omega)
      k_extra "go"
      have hkk : hisK ds (a + 1) n (i + 1) = ((hisK ds (a + 1) n i).1.filter (fun e => !decide (e ∈ (hisK ds (a + 1) n i).1)) ++ [(i : Int)], (hisK ds (a + 1) n i).2.1 ++ [("v" ++ lett i, (hisK ds (a + 1) n i).1)], (hisK ds (a + 1) n i).2.2) := by
        show (_, _, _) = _
        rw [hp]
      rw [hkk]
      have hpl : (hisP ds n i (hisK ds (a + 1) n i)).1.length ≤ 6 := hpo.1
      rw [hp] at hpl
      refine ev_lcg PyData.int [("_law_end", 7)] (by k_extra "nm") (ei_list ?_)
      k_extra "go"
      refine ⟨fun x => !decide (x ∈ (hisK ds (a + 1) n i).1), .int, fun x hx => ⟨_, tgc_name (by k_extra "lk") rfl (by k_extra "nm"), ?_⟩, ?_⟩
      · refine eif_one ?_
        k_extra "go"
        intro _
        k_extra "go"
      k_extra "go"
      · rw [sizeLine_eq, List.length_map]
        have := List.length_filter_le (fun x => !decide (x ∈ (hisK ds (a + 1) n i).1)) (hisK ds (a + 1) n i).1
        simp only [List.length_singleton]
        omega
      k_extra "go"
      refine ⟨_, ix_S (by decide) (lett_get (by omega)), ?_⟩
      refine ⟨_, o_addS (by show 1 + 1 ≤ _; rw [sizeLine_eq]; omega), ?_⟩
      k_extra "go"
      k_extra "sa"
      · k_extra "go"
        refine ⟨_, ?_, rfl⟩
        try dsimp only
        rw [lI_snoc, List.map_append (l₂ := [_])]
        k_extra "wk"
      · rw [List.length_map, o.hl]; omega
    · have h1' : ¬ ((i : Nat) : Int) = (n : Int) - 1 := by simpa using h1
      k_extra "go"
      refine ⟨fun h2 => ?_, fun h2 => ?_⟩
      · have h2' : 0 < i := by have := of_decide_eq_true h2; omega
        have hp : hisP ds n i (hisK ds (a + 1) n i) = parL ds (hisK ds (a + 1) n i).2.2 i (hisK ds (a + 1) n i).1 := by
          unfold hisP
          rw [if_neg (by omega), if_pos h2']
        k_extra "go"
        refine i_callB B hj2 (by k_extra "nm") (by k_extra "lk") rfl (by k_extra "vs") ?_
        k_extra "go"
        refine ⟨_, _, _, _, _, by k_extra "lk", ⟨i, (hisK ds (a + 1) n i).1, by omega, by omega, rfl, rfl, rfl⟩, ?_⟩
        k_extra "go"
        have hkk : hisK ds (a + 1) n (i + 1) = ((hisK ds (a + 1) n i).1.filter (fun e => !decide (e ∈ (parL ds (hisK ds (a + 1) n i).2.2 i (hisK ds (a + 1) n i).1).1)) ++ [(i : Int)], (hisK ds (a + 1) n i).2.1 ++ [("v" ++ lett i, (parL ds (hisK ds (a + 1) n i).2.2 i (hisK ds (a + 1) n i).1).1)], (parL ds (hisK ds (a + 1) n i).2.2 i (hisK ds (a + 1) n i).1).2) := by
          show (_, _, _) = _
          rw [hp]
        rw [hkk]
        have hpl : (hisP ds n i (hisK ds (a + 1) n i)).1.length ≤ 6 := hpo.1
        rw [hp] at hpl
        refine ev_lcg PyData.int [("_law_end", 7)] (by k_extra "nm") (ei_list ?_)
        k_extra "go"
        refine ⟨fun x => !decide (x ∈ (parL ds (hisK ds (a + 1) n i).2.2 i (hisK ds (a + 1) n i).1).1), .int, fun x hx => ⟨_, tgc_name (by k_extra "lk") rfl (by k_extra "nm"), ?_⟩, ?_⟩
        · refine eif_one ?_
          k_extra "go"
          intro _
          k_extra "go"
        k_extra "go"
        · rw [sizeLine_eq, List.length_map]
          have := List.length_filter_le (fun x => !decide (x ∈ (parL ds (hisK ds (a + 1) n i).2.2 i (hisK ds (a + 1) n i).1).1)) (hisK ds (a + 1) n i).1
          simp only [List.length_singleton]
          omega
        k_extra "go"
        refine ⟨_, ix_S (by decide) (lett_get (by omega)), ?_⟩
        refine ⟨_, o_addS (by show 1 + 1 ≤ _; rw [sizeLine_eq]; omega), ?_⟩
        k_extra "go"
        k_extra "sa"
        · k_extra "go"
          refine ⟨_, ?_, rfl⟩
          try dsimp only
          rw [lI_snoc, List.map_append (l₂ := [_])]
          k_extra "wk"
        · rw [List.length_map, o.hl]; omega
      · have h2' : ¬ 0 < i := by have := of_decide_eq_false h2; omega
        have hp : hisP ds n i (hisK ds (a + 1) n i) = ([], (hisK ds (a + 1) n i).2.2) := by
          unfold hisP
          rw [if_neg (by omega), if_neg h2']
        k_extra "go"
        have hkk : hisK ds (a + 1) n (i + 1) = ((hisK ds (a + 1) n i).1.filter (fun e => !decide (e ∈ ([] : List Int))) ++ [(i : Int)], (hisK ds (a + 1) n i).2.1 ++ [("v" ++ lett i, ([] : List Int))], (hisK ds (a + 1) n i).2.2) := by
          show (_, _, _) = _
          rw [hp]
        rw [hkk]
        have hpl : (hisP ds n i (hisK ds (a + 1) n i)).1.length ≤ 6 := hpo.1
        rw [hp] at hpl
        refine ev_lcg PyData.int [("_law_end", 7)] (by k_extra "nm") (ei_list ?_)
        k_extra "go"
        refine ⟨fun x => !decide (x ∈ ([] : List Int)), .int, fun x hx => ⟨_, tgc_name (by k_extra "lk") rfl (by k_extra "nm"), ?_⟩, ?_⟩
        · refine eif_one ?_
          k_extra "go"
          refine ⟨_, o_niT (ns := ([] : List Int)), ?_⟩
          k_extra "go"
          intro _
          k_extra "go"
        k_extra "go"
        · rw [sizeLine_eq, List.length_map]
          have := List.length_filter_le (fun x => !decide (x ∈ ([] : List Int))) (hisK ds (a + 1) n i).1
          simp only [List.length_singleton]
          omega
        k_extra "go"
        refine ⟨_, ix_S (by decide) (lett_get (by omega)), ?_⟩
        refine ⟨_, o_addS (by show 1 + 1 ≤ _; rw [sizeLine_eq]; omega), ?_⟩
        k_extra "go"
        k_extra "sa"
        · k_extra "go"
          refine ⟨_, ?_, rfl⟩
          try dsimp only
          rw [lI_snoc, List.map_append (l₂ := [_])]
          k_extra "wk"
        · rw [List.length_map, o.hl]; omega
  · rintro δ2 rfl
    rw [upto_len]
    k_extra "go"
    exact ⟨_, rfl⟩
end
section
set_option autoImplicit false
/-! _law_skips -/
def skL (ds : List Int) (a : Nat) : Nat → List Int
  | 0 => []
  | i + 1 => if drw ds (a + i) 7 = 0 then skL ds a i ++ [(i : Int)] else skL ds a i
def rSk (ds : List Int) (a : Nat) (as : List D) (d : D) (a' : Nat) : Prop := ∃ h, HOk h ∧ as = [hD h] ∧ d = tI (skL ds a h.length) ∧ a' = a + h.length
theorem w_skips {g : Ga} {k j1 : Nat} (W : Wb g) (A : CallOk g j1 "_law_draw" (BoxC 1 rDraw)) (hj1 : j1 ≤ k) (F : Fd g "_law_skips" 36 ["_law_box", "_law_history_here"]) : CallOk g (k + 1) "_law_skips" (BoxC 1 rSk) := by
  refine mk_box (N := ["_law_box", "_law_history_here", "_law_make"]) F rfl ⟨rfl, rfl, rfl, by decide +kernel, rfl, by decide +kernel, by decide +kernel⟩ ?_
  rintro ds a as d a' - ⟨h, ho, rfl, rfl, rfl⟩
  have h6 := ho.len
  show SDn _ _ _ [bxS ds a, .imm (hD h), .un] _
  k_extra "go"
  refine ev_lc [("_law_make", 2)] (by k_extra "nm") ?_
  k_extra "go"
  refine ⟨by omega, by omega, by rw [Int.toNat_natCast, rg_upto, List.length_map, upto_len]; omega, fun i acc δ => acc = (skL ds a i).map PyData.int ∧ δ = [bxS ds (a + i), .imm (hD h), .un], ⟨rfl, rfl⟩, ?_, ?_⟩
  · rintro i d acc δ2 hd ⟨rfl, rfl⟩
    rw [Int.toNat_natCast, rg_upto, List.getElem?_map] at hd
    obtain ⟨x, hx, rfl⟩ : ∃ x, (upto h.length)[i]? = some x ∧ d = .int x := by
      cases e : (upto h.length)[i]? with
      | none => rw [e] at hd; cases hd
      | some x => rw [e] at hd; cases hd; exact ⟨x, rfl, rfl⟩
    obtain ⟨hi, rfl⟩ := upto_get hx
    refine ⟨_, tgc_name (by k_extra "lk") rfl (by k_extra "nm"), ?_⟩
    refine eif_one ?_
    k_extra "go"
    refine i_callB A hj1 (by k_extra "nm") (by k_extra "lk") rfl (by k_extra "vs") ?_
    k_extra "go"
    refine ⟨_, _, _, _, _, by k_extra "lk", ⟨7, by omega, rfl, rfl, rfl⟩, ?_⟩
    k_extra "go"
    refine ⟨fun h1 => ?_, fun h1 => ?_⟩
    · have e : skL ds a (i + 1) = skL ds a i ++ [(i : Int)] := if_pos (of_decide_eq_true h1)
      k_extra "go"
      exact ⟨_, bk_res rfl, by rw [e, List.map_append]; rfl, rfl⟩
    · have e : skL ds a (i + 1) = skL ds a i := if_neg (of_decide_eq_false h1)
      exact ⟨_, bk_res rfl, by rw [e], rfl⟩
  · rintro acc δ2 ⟨rfl, rfl⟩
    rw [Int.toNat_natCast, rg_upto, List.length_map, upto_len]
    k_extra "go"
    exact ⟨_, rfl⟩
end
section
set_option autoImplicit false
/-! _law_digits -/
def bigK (c : Int) : Nat → List Int × Int
  | 0 => ([], c)
  | i + 1 => if 0 < (bigK c i).2 then ((bigK c i).1 ++ [(bigK c i).2 % 1000], (bigK c i).2 / 1000) else bigK c i
def lcgK (z : Int) : Nat → List Int × Int
  | 0 => ([], z)
  | i + 1 => ((lcgK z i).1 ++ [((lcgK z i).2 * 16807 + 7 * (i : Int) + 1) % 2147483647 / 997 % 1000], ((lcgK z i).2 * 16807 + 7 * (i : Int) + 1) % 2147483647)
def posC (c : Int) : Int := if c < 0 then 1 - 2 * c else c
def digC (c : Int) (k : Nat) : List Int := if 10 ^ 18 ≤ posC c then (bigK (posC c) 60).1 else (lcgK ((posC c * 48271 + (k : Int) * 69621 + 11) % 2147483647) 12).1
def dgs (ns : List Int) : Nat → List Int
  | 0 => []
  | k + 1 => dgs ns k ++ digC (ns.getD k 0) k
theorem bigK_len {c : Int} : ∀ i, (bigK c i).1.length ≤ i
  | 0 => by simp [bigK]
  | i + 1 => by
    have := bigK_len (c := c) i
    unfold bigK
    split
    · simp; omega
    · omega
theorem lcgK_len {c : Int} : ∀ i, (lcgK c i).1.length ≤ i
  | 0 => by simp [lcgK]
  | i + 1 => by
    have := lcgK_len (c := c) i
    unfold lcgK
    simp; omega
theorem lcgK_rg {c : Int} (h0 : 0 ≤ c) (h1 : c < 2147483647) : ∀ i, 0 ≤ (lcgK c i).2 ∧ (lcgK c i).2 < 2147483647
  | 0 => ⟨h0, h1⟩
  | i + 1 => by
    show 0 ≤ ((lcgK c i).2 * 16807 + 7 * (i : Int) + 1) % 2147483647 ∧ ((lcgK c i).2 * 16807 + 7 * (i : Int) + 1) % 2147483647 < 2147483647
    omega
theorem digC_len {c : Int} {k : Nat} : (digC c k).length ≤ 60 := by
  unfold digC
  split
  · exact bigK_len 60
  · have := lcgK_len (c := (posC c * 48271 + (k : Int) * 69621 + 11) % 2147483647) 12
    omega
theorem dgs_len {ns : List Int} : ∀ k, (dgs ns k).length ≤ 60 * k
  | 0 => by simp [dgs]
  | k + 1 => by
    have := dgs_len (ns := ns) k
    have := digC_len (c := ns.getD k 0) (k := k)
    show (dgs ns k ++ _).length ≤ _
    rw [List.length_append]; omega
def rDig (ds : List D) (d : D) : Prop := ∃ ns, ds = [scrD ns, .int 0, .int 63] ∧ d = lI (dgs ns 63)
theorem w_digits {g : Ga} {k j1 : Nat} (W : Wb g) (A : CallOk g j1 "_law_cell" (PureC 2 rCell)) (hj1 : j1 ≤ k) (F : Fd g "_law_digits" 29 ["_law_script", "_law_first", "_law_last"]) : CallOk g (k + 1) "_law_digits" (PureC 3 rDig) := by
  refine mk_pure (N := ["_law_script", "_law_first", "_law_last", "_law_digits_here", "_law_k", "_law_cell_here", "_law_turn", "_law_seed"]) F ⟨rfl, rfl, rfl, by decide +kernel, rfl, by decide +kernel, by decide +kernel⟩ ?_
  rintro ds d - ⟨ns, rfl, rfl⟩
  show SDn _ _ _ [.imm (scrD ns), .imm (.int 0), .imm (.int 63), .un, .un, .un, .un, .un] _
  k_extra "s"
  k_extra "s"
  k_extra "go"
  refine sd_forg PyData.int ?_
  k_extra "go"
  refine ⟨by omega, upto 63, rg_upto (n := 63), fun i δ => δ = [.imm (scrD ns), .imm (.int 0), .imm (.int 63), .lst ((dgs ns i).map .int), .un, .un, .un, .un], ⟨_, by k_extra "wk", rfl⟩, ?_, ?_⟩
  · rintro i x δ2 hx rfl
    obtain ⟨hi, rfl⟩ := upto_get hx
    have hl := dgs_len (ns := ns) i
    refine ⟨[.imm (scrD ns), .imm (.int 0), .imm (.int 63), .lst ((dgs ns i).map .int), .imm (.int i), .un, .un, .un], tgd_name (by k_extra "lk") rfl (by k_extra "lo") (by k_extra "tp"), ?_⟩
    k_extra "go"
    refine i_call A hj1 (by k_extra "nm") ?_
    k_extra "go"
    refine ⟨_, ⟨ns, i, rfl, rfl⟩, ?_⟩
    have hk : dgs ns (i + 1) = dgs ns i ++ digC (ns.getD i 0) i := rfl
    k_extra "go"
    refine ⟨fun h1 => ?_, fun h1 => ?_⟩
    · have h1' := of_decide_eq_true h1
      k_extra "go"
      · exact .inl (by decide)
      have hz : posC (ns.getD i 0) = 1 - 2 * ns.getD i 0 := if_pos h1'
      k_extra "go"
      generalize 1 - 2 * ns.getD i 0 = z at hz ⊢
      refine ⟨_, o_pow (i := 10) (j := 18) ⟨by decide, by decide, by decide⟩, ?_⟩
      k_extra "go"
      refine ⟨fun h2 => ?_, fun h2 => ?_⟩
      · have h2' : (10 : Int) ^ 18 ≤ z := of_decide_eq_true h2
        have hd : digC (ns.getD i 0) i = (bigK z 60).1 := by unfold digC; rw [hz, if_pos h2']
        k_extra "go"
        refine sd_forg PyData.int ?_
        k_extra "go"
        refine ⟨by omega, by omega, upto 60, rg_upto (n := 60), fun j δ => δ = [.imm (scrD ns), .imm (.int 0), .imm (.int 63), .lst ((dgs ns i ++ (bigK z j).1).map .int), .imm (.int i), .imm (.int (bigK z j).2), .un, .un], ⟨_, ?_, rfl⟩, ?_, ?_⟩
        · rw [show (bigK z 0).1 = [] from rfl, List.append_nil]
          k_extra "wk"
        · rintro j x δ2 hx rfl
          obtain ⟨hj, rfl⟩ := upto_get hx
          have hjl := bigK_len (c := z) j
          refine ⟨[.imm (scrD ns), .imm (.int 0), .imm (.int 63), .lst ((dgs ns i ++ (bigK z j).1).map .int), .imm (.int i), .imm (.int (bigK z j).2), .imm (.int j), .un], tgd_name (by k_extra "lk") rfl (by k_extra "lo") (by k_extra "tp"), ?_⟩
          k_extra "go"
          refine ⟨fun h3 => ?_, fun h3 => ?_⟩
          · have e : bigK z (j + 1) = ((bigK z j).1 ++ [(bigK z j).2 % 1000], (bigK z j).2 / 1000) := if_pos (of_decide_eq_true h3)
            k_extra "go"
            · omega
            k_extra "sa"
            · k_extra "go"
              · exact ⟨by omega, by omega⟩
              k_extra "go"
              refine ⟨_, ?_, rfl⟩
              rw [e, ← List.append_assoc, List.map_append (l₂ := [_])]
              k_extra "wk"
            · rw [List.length_map, List.length_append]; omega
          · have e : bigK z (j + 1) = bigK z j := if_neg (of_decide_eq_false h3)
            k_extra "go"
            refine ⟨_, ?_, rfl⟩
            rw [e]
            k_extra "wk"
        · rintro δ2 rfl
          refine ⟨_, ?_, rfl⟩
          rw [upto_len, hk, hd]
          k_extra "wk"
      · have h2' : ¬ (10 : Int) ^ 18 ≤ z := of_decide_eq_false h2
        have hd : digC (ns.getD i 0) i = (lcgK ((z * 48271 + (i : Int) * 69621 + 11) % 2147483647) 12).1 := by unfold digC; rw [hz, if_neg h2']
        iterate 4 (k_extra "go"; any_goals (try (first | exact Or.inr (by decide) | exact (by decide : (0 : Int) < 2147483647))))
        have s0 := Int.emod_nonneg (z * 48271 + (i : Int) * 69621 + 11) (b := 2147483647) (by omega)
        have s1 := Int.emod_lt_of_pos (z * 48271 + (i : Int) * 69621 + 11) (b := 2147483647) (by omega)
        generalize (z * 48271 + (i : Int) * 69621 + 11) % 2147483647 = y at *
        k_extra "go"
        refine sd_forg PyData.int ?_
        k_extra "go"
        refine ⟨by omega, by omega, upto 12, rg_upto (n := 12), fun j δ => δ = [.imm (scrD ns), .imm (.int 0), .imm (.int 63), .lst ((dgs ns i ++ (lcgK y j).1).map .int), .imm (.int i), .un, .un, .imm (.int (lcgK y j).2)], ⟨_, ?_, rfl⟩, ?_, ?_⟩
        · rw [show (lcgK y 0).1 = [] from rfl, List.append_nil]
          k_extra "wk"
        · rintro j x δ2 hx rfl
          obtain ⟨hj, rfl⟩ := upto_get hx
          have hjl := lcgK_len (c := y) j
          have rg := lcgK_rg s0 s1 j
          refine ⟨[.imm (scrD ns), .imm (.int 0), .imm (.int 63), .lst ((dgs ns i ++ (lcgK y j).1).map .int), .imm (.int i), .un, .imm (.int j), .imm (.int (lcgK y j).2)], tgd_name (by k_extra "lk") rfl (by k_extra "lo") (by k_extra "tp"), ?_⟩
          iterate 5 (k_extra "go"; any_goals (try (first | exact Or.inr (by decide) | exact Or.inl (by decide) | exact (by decide : (0 : Int) < 2147483647) | exact (by decide : (0 : Int) < 1000) | exact (show CDiv _ 997 from ⟨by decide, by decide⟩))))
          k_extra "sa"
          · k_extra "go"
            refine ⟨_, ?_, rfl⟩
            rw [show (lcgK y (j + 1)).1 = (lcgK y j).1 ++ [((lcgK y j).2 * 16807 + 7 * (j : Int) + 1) % 2147483647 / 997 % 1000] from rfl, show (lcgK y (j + 1)).2 = ((lcgK y j).2 * 16807 + 7 * (j : Int) + 1) % 2147483647 from rfl, ← List.append_assoc, List.map_append (l₂ := [_])]
            k_extra "wk"
          · rw [List.length_map, List.length_append]; omega
        · rintro δ2 rfl
          refine ⟨_, ?_, rfl⟩
          rw [upto_len, hk, hd]
          k_extra "wk"
    · have h1' := of_decide_eq_false h1
      k_extra "go"
      k_extra "go"
      generalize hy : ns.getD i 0 = z
      have hz : posC (ns.getD i 0) = z := by rw [← hy]; exact if_neg h1'
      refine ⟨_, o_pow (i := 10) (j := 18) ⟨by decide, by decide, by decide⟩, ?_⟩
      k_extra "go"
      refine ⟨fun h2 => ?_, fun h2 => ?_⟩
      · have h2' : (10 : Int) ^ 18 ≤ z := of_decide_eq_true h2
        have hd : digC (ns.getD i 0) i = (bigK z 60).1 := by unfold digC; rw [hz, if_pos h2']
        k_extra "go"
        refine sd_forg PyData.int ?_
        k_extra "go"
        refine ⟨by omega, by omega, upto 60, rg_upto (n := 60), fun j δ => δ = [.imm (scrD ns), .imm (.int 0), .imm (.int 63), .lst ((dgs ns i ++ (bigK z j).1).map .int), .imm (.int i), .imm (.int (bigK z j).2), .un, .un], ⟨_, ?_, rfl⟩, ?_, ?_⟩
        · rw [show (bigK z 0).1 = [] from rfl, List.append_nil]
          k_extra "wk"
        · rintro j x δ2 hx rfl
          obtain ⟨hj, rfl⟩ := upto_get hx
          have hjl := bigK_len (c := z) j
          refine ⟨[.imm (scrD ns), .imm (.int 0), .imm (.int 63), .lst ((dgs ns i ++ (bigK z j).1).map .int), .imm (.int i), .imm (.int (bigK z j).2), .imm (.int j), .un], tgd_name (by k_extra "lk") rfl (by k_extra "lo") (by k_extra "tp"), ?_⟩
          k_extra "go"
          refine ⟨fun h3 => ?_, fun h3 => ?_⟩
          · have e : bigK z (j + 1) = ((bigK z j).1 ++ [(bigK z j).2 % 1000], (bigK z j).2 / 1000) := if_pos (of_decide_eq_true h3)
            k_extra "go"
            · omega
            k_extra "sa"
            · k_extra "go"
              · exact ⟨by omega, by omega⟩
              k_extra "go"
              refine ⟨_, ?_, rfl⟩
              rw [e, ← List.append_assoc, List.map_append (l₂ := [_])]
              k_extra "wk"
            · rw [List.length_map, List.length_append]; omega
          · have e : bigK z (j + 1) = bigK z j := if_neg (of_decide_eq_false h3)
            k_extra "go"
            refine ⟨_, ?_, rfl⟩
            rw [e]
            k_extra "wk"
        · rintro δ2 rfl
          refine ⟨_, ?_, rfl⟩
          rw [upto_len, hk, hd]
          k_extra "wk"
      · have h2' : ¬ (10 : Int) ^ 18 ≤ z := of_decide_eq_false h2
        have hd : digC (ns.getD i 0) i = (lcgK ((z * 48271 + (i : Int) * 69621 + 11) % 2147483647) 12).1 := by unfold digC; rw [hz, if_neg h2']
        iterate 4 (k_extra "go"; any_goals (try (first | exact Or.inr (by decide) | exact (by decide : (0 : Int) < 2147483647))))
        have s0 := Int.emod_nonneg (z * 48271 + (i : Int) * 69621 + 11) (b := 2147483647) (by omega)
        have s1 := Int.emod_lt_of_pos (z * 48271 + (i : Int) * 69621 + 11) (b := 2147483647) (by omega)
        generalize (z * 48271 + (i : Int) * 69621 + 11) % 2147483647 = y at *
        k_extra "go"
        refine sd_forg PyData.int ?_
        k_extra "go"
        refine ⟨by omega, by omega, upto 12, rg_upto (n := 12), fun j δ => δ = [.imm (scrD ns), .imm (.int 0), .imm (.int 63), .lst ((dgs ns i ++ (lcgK y j).1).map .int), .imm (.int i), .un, .un, .imm (.int (lcgK y j).2)], ⟨_, ?_, rfl⟩, ?_, ?_⟩
        · rw [show (lcgK y 0).1 = [] from rfl, List.append_nil]
          k_extra "wk"
        · rintro j x δ2 hx rfl
          obtain ⟨hj, rfl⟩ := upto_get hx
          have hjl := lcgK_len (c := y) j
          have rg := lcgK_rg s0 s1 j
          refine ⟨[.imm (scrD ns), .imm (.int 0), .imm (.int 63), .lst ((dgs ns i ++ (lcgK y j).1).map .int), .imm (.int i), .un, .imm (.int j), .imm (.int (lcgK y j).2)], tgd_name (by k_extra "lk") rfl (by k_extra "lo") (by k_extra "tp"), ?_⟩
          iterate 5 (k_extra "go"; any_goals (try (first | exact Or.inr (by decide) | exact Or.inl (by decide) | exact (by decide : (0 : Int) < 2147483647) | exact (by decide : (0 : Int) < 1000) | exact (show CDiv _ 997 from ⟨by decide, by decide⟩))))
          k_extra "sa"
          · k_extra "go"
            refine ⟨_, ?_, rfl⟩
            rw [show (lcgK y (j + 1)).1 = (lcgK y j).1 ++ [((lcgK y j).2 * 16807 + 7 * (j : Int) + 1) % 2147483647 / 997 % 1000] from rfl, show (lcgK y (j + 1)).2 = ((lcgK y j).2 * 16807 + 7 * (j : Int) + 1) % 2147483647 from rfl, ← List.append_assoc, List.map_append (l₂ := [_])]
            k_extra "wk"
          · rw [List.length_map, List.length_append]; omega
        · rintro δ2 rfl
          refine ⟨_, ?_, rfl⟩
          rw [upto_len, hk, hd]
          k_extra "wk"
  · rintro δ2 rfl
    rw [upto_len]
    refine sdn_retO (by k_extra "lk") (by k_extra "vs") (by decide) ?_
    rfl
end
section
def bD (b : Best) : D := .tuple [.int b.1, tI b.2]
def sD (s : Seen) : List (List Int × D) := s.map fun p => (p.1, bD p.2)
theorem getT_sD : ∀ (s : Seen) (k : List Int), getT (sD s) k = (getS s k).map bD
  | [], _ => rfl
  | p :: s, k => by
    by_cases c : p.1 = k
    · simp [getT, getS, sD, c]
    · have ih := getT_sD s k
      have e1 : getT (sD (p :: s)) k = getT (sD s) k := by simp [getT, sD, c]
      have e2 : getS (p :: s) k = getS s k := by simp [getS, c]
      rw [e1, e2, ih]
theorem putT_sD (s : Seen) (k : List Int) (b : Best) : putT (sD s) k (bD b) = sD (putS s k b) := by
  unfold putT putS
  rw [getT_sD, Option.isSome_map]
  split
  · unfold sD
    rw [List.map_map, List.map_map]
    refine List.map_congr_left fun p _ => ?_
    show (if p.1 = k then (p.1, bD b) else (p.1, bD p.2)) = ((if p.1 = k then (p.1, b) else p).1, bD (if p.1 = k then (p.1, b) else p).2)
    split <;> rfl
  · unfold sD; rw [List.map_append]; rfl
def rRtd (n : Nat) (as : List D) (kvs : List (List Int × D)) (d : D) (kvs' : List (List Int × D)) : Prop := ∃ h sk left w s, HOk h ∧ GoodL h sk left ∧ left ≠ [] ∧ left.length ≤ n ∧ 1 ≤ w ∧ w ≤ 3 ∧ SeenOk h sk w s ∧ as = [hD h, tI sk, tI left, .int (w : Nat)] ∧ kvs = sD s ∧ d = bD (rtd h sk w n left s).1 ∧ kvs' = sD (rtd h sk w n left s).2
theorem tst_of {h : Hist} {sk : List Int} {m : Int} (hm : m ∈ tst h sk) : 0 ≤ m ∧ m < (h.length : Int) := tst_mem hm
theorem w_rtd {g : Ga} {k j1 j2 j3 j4 : Nat} (W : Wb g) (A : CallOk g j1 "useful_makes" (PureC 3 rUm)) (B : ∀ K, K ≤ 3 → CallOk g j2 "choices_of" (PureC 2 (rCho K))) (C : CallOk g j3 "patterns" (PureC 3 rPt)) (hj1 : j1 ≤ k) (hj2 : j2 ≤ k) (hj3 : j3 ≤ k)
    (F : Fd g "rounds_that_do" 16 ["history", "skipped", "left", "w", "seen"]) : ∀ n, CallOk g (k + n + 1) "rounds_that_do" (SeenC 4 (rRtd n)) := by
  intro n
  induction n with
  | zero =>
    refine mk_seen (N := ["history", "skipped", "left", "w", "seen", "makes", "best", "choice", "parts", "most", "pattern", "part"]) F rfl ⟨rfl, rfl, rfl, by decide +kernel, rfl, by decide +kernel, by decide +kernel⟩ ?_
    rintro as kvs d kvs' - ⟨h, sk, left, w, s, _, _, ne, hl, _⟩
    exact absurd (List.length_eq_zero_iff.mp (by omega)) ne
  | succ n ih =>
    refine mk_seen (N := ["history", "skipped", "left", "w", "seen", "makes", "best", "choice", "parts", "most", "pattern", "part"]) F rfl ⟨rfl, rfl, rfl, by decide +kernel, rfl, by decide +kernel, by decide +kernel⟩ ?_
    rintro as kvs d kvs' - ⟨h, sk, left, w, s, ho, gl, ne, hl, w1, w3, so, rfl, rfl, rfl, rfl⟩
    have l6 := good_len ho gl
    have u6 := umStep_len' (sk := sk) (left := left) ho
    show SDn _ _ _ [.imm (hD h), .imm (tI sk), .imm (tI left), .imm (.int w), .dct (sD s), .un, .un, .un, .un, .un, .un, .un] _
    k_extra "go"
    refine ⟨fun h1 => ?_, fun h1 => ?_⟩
    · have c : left.length < 2 := by have := of_decide_eq_true h1; omega
      have e : rtd h sk w (n + 1) left s = ((0, []), s) := by unfold rtd; rw [if_pos c]
      rw [e]
      k_extra "go"
      rfl
    · have c : ¬ left.length < 2 := by have := of_decide_eq_false h1; omega
      have l2 : 2 ≤ left.length := by omega
      k_extra "go"
      refine ⟨sD s, left, rfl, by k_extra "lk", ?_⟩
      rw [getT_sD]
      cases hg : getS s left with
      | some b =>
        have e : rtd h sk w (n + 1) left s = (b, s) := by unfold rtd; rw [if_neg c, hg]
        rw [e]
        show (true = true → _) ∧ (true = false → _)
        k_extra "go"
        refine ⟨sD s, left, bD b, rfl, by k_extra "lk", by rw [getT_sD, hg]; rfl, ?_⟩
        k_extra "go"
        all_goals rfl
      | none =>
        show (false = true → _) ∧ (false = false → _)
        k_extra "go"
        refine i_call A (by show j1 ≤ k + (n + 1); omega) (by k_extra "nm") ?_
        k_extra "go"
        refine ⟨_, ⟨h, sk, left, ho, l6, rfl, rfl⟩, ?_⟩
        k_extra "go"
        refine sd_forg tI (ei_list ?_)
        refine i_call (B (min w (usef h sk left).length) (by omega)) (by show j2 ≤ k + (n + 1); omega) (by k_extra "nm") ?_
        k_extra "go"
        have hmin : (if ((usef h sk left).length : Int) < (w : Int) then ((usef h sk left).length : Int) else (w : Int)) = ((min w (usef h sk left).length : Nat) : Int) := by split <;> omega
        rw [hmin]
        have chl : (chs h sk w left).length ≤ 216 := by
          have := cho_len (min w (usef h sk left).length) (usef h sk left) u6
          have h3 : 6 ^ (min w (usef h sk left).length) ≤ 6 ^ 3 := Nat.pow_le_pow_right (by omega) (by omega)
          unfold chs
          omega
        refine ⟨_, ⟨usef h sk left, min w (usef h sk left).length, Nat.le_refl _, u6, rfl, rfl⟩, ?_⟩
        have okf : ∀ l s, l.length < left.length → l ≠ [] → GoodL h sk l → SeenOk h sk w s → BestOk h sk w l (rtd h sk w n l s).1 ∧ SeenOk h sk w (rtd h sk w n l s).2 := fun l s a1 a2 a3 a4 => rtd_ok w1 n l s (by omega) a2 a3 a4
        refine ⟨_, rfl, chs h sk w left, rfl, fun i δ => ∃ b : Best × Seen, b = ((chs h sk w left).take i).foldl (chStep (rtd h sk w n) h left) (((left.length : Int) + 1, []), s) ∧
          δ = [.imm (hD h), .imm (tI sk), .imm (tI left), .imm (.int w), .dct (sD b.2), .imm (tI (usef h sk left)), .imm (bD b.1), .un, .un, .un, .un, .un], ⟨_, by k_extra "wk", _, rfl, rfl⟩, ?_, ?_⟩
        · rintro i ch δ2 hch ⟨b, hb, rfl⟩
          have hmem := List.mem_of_getElem? hch
          have tk : (chs h sk w left).take (i + 1) = (chs h sk w left).take i ++ [ch] := by rw [List.take_succ, hch]; rfl
          have hb2 : ((chs h sk w left).take (i + 1)).foldl (chStep (rtd h sk w n) h left) (((left.length : Int) + 1, []), s) = chStep (rtd h sk w n) h left b ch := by rw [tk, List.foldl_append, hb]; rfl
          have so2 := chF_way w1 ne l2 gl okf so i
          rw [← hb] at so2
          have small := part_small gl l2 w1 hmem
          obtain ⟨c1, c2, c3⟩ := chs_good gl l2 w1 hmem
          refine ⟨[.imm (hD h), .imm (tI sk), .imm (tI left), .imm (.int w), .dct (sD b.2), .imm (tI (usef h sk left)), .imm (bD b.1), .imm (tI ch), .un, .un, .un, .un], tgd_name (by k_extra "lk") rfl (by k_extra "lo") (by k_extra "tp"), ?_⟩
          k_extra "s"
          k_extra "s"
          refine i_call C (by show j3 ≤ k + (n + 1); omega) (by k_extra "nm") ?_
          k_extra "go"
          refine ⟨_, ⟨h, left, ch, ho, l6, by omega, c1, fun m hm => tst_of (c3 m hm).1, rfl, rfl⟩, ?_⟩
          k_extra "go"
          refine ev_lc [("pattern", 10), ("part", 11)] (by k_extra "nm") (ei_tup ?_)
          k_extra "go"
          have pl : (ptsD h left ch).length ≤ 6 := by
            unfold ptsD due
            rw [List.length_map, srtB_len, List.length_map]
            exact Nat.le_trans (grp_len _ _) l6
          refine ⟨by rw [List.length_map]; omega, fun j acc δ => ∃ a : List Int × Seen, a = ((ptsD h left ch).take j).foldl (allStep (rtd h sk w n)) ([], b.2) ∧ SeenOk h sk w a.2 ∧ acc = a.1.map .int ∧
            δ = [.imm (hD h), .imm (tI sk), .imm (tI left), .imm (.int w), .dct (sD a.2), .imm (tI (usef h sk left)), .imm (bD b.1), .imm (tI ch), .imm (.tuple ((ptsD h left ch).map ptD)), .un, .un, .un], ⟨_, rfl, so2, rfl, rfl⟩, ?_, ?_⟩
          · rintro j d acc δ2 hd ⟨a, ha, sa, rfl, rfl⟩
            rw [List.getElem?_map] at hd
            cases hp : (ptsD h left ch)[j]? with
            | none => rw [hp] at hd; cases hd
            | some p =>
              rw [hp] at hd
              cases hd
              have tk2 : (ptsD h left ch).take (j + 1) = (ptsD h left ch).take j ++ [p] := by rw [List.take_succ, hp]; rfl
              obtain ⟨p1, p2, p3⟩ := small p (List.mem_of_getElem? hp)
              have so3 := (okf p.2 a.2 p1 p2 p3 sa).2
              refine ⟨_, tgc_pair (by k_extra "lk") rfl (by k_extra "lk") rfl (by decide) (by k_extra "nm") (by k_extra "nm"), eif_nil ⟨fun _ => ?_, fun z => by cases z⟩⟩
              refine ev_ix (i_callS ih (by show k + n + 1 ≤ k + (n + 1); omega) (by k_extra "nm") (by k_extra "vs") ?_) (by intro _ _; rfl)
              k_extra "go"
              refine ⟨_, _, _, _, _, by k_extra "lk", ⟨h, sk, p.2, w, a.2, ho, p3, p2, by omega, w1, w3, sa, rfl, rfl, rfl, rfl⟩, ?_⟩
              k_extra "go"
              refine ⟨.int (rtd h sk w n p.2 a.2).1.1, ix_T rfl, _, bk_res rfl, allStep (rtd h sk w n) a p, ?_, so3, ?_, rfl⟩
              · rw [tk2, List.foldl_append, ← ha]; rfl
              · show _ = (a.1 ++ [_]).map PyData.int
                rw [List.map_append]; rfl
          · rintro acc δ2 ⟨a, ha, sa, rfl, rfl⟩
            rw [List.length_map, List.take_length] at ha
            have al := (all_ok okf (ptsD h left ch) ([], b.2) small so2 (fun x hx => by simp at hx)).2.2
            rw [← ha] at al
            have ane : a.1 ≠ [] := fun e => by
              rw [e] at al
              simp only [List.length_nil] at al
              exact pts_ne (h := h) (ch := ch) ne (List.length_eq_zero_iff.mp (by omega))
            obtain ⟨m1, m2⟩ := maxI_spec ane
            have stp : chStep (rtd h sk w n) h left b ch = if maxI a.1 + 1 < b.1.1 then ((maxI a.1 + 1, ch), a.2) else (b.1, a.2) := by unfold chStep; rw [← ha]
            k_extra "go"
            refine ⟨_, c_max m1 m2, ?_⟩
            k_extra "go"
            refine ⟨.int b.1.1, ix_T rfl, ?_⟩
            k_extra "go"
            refine ⟨fun h5 => ?_, fun h5 => ?_⟩
            · rw [if_pos (of_decide_eq_true h5)] at stp
              k_extra "go"
              refine ⟨_, ?_, _, by rw [hb2], rfl⟩
              rw [stp]
              k_extra "wk"
            · rw [if_neg (of_decide_eq_false h5)] at stp
              k_extra "go"
              refine ⟨_, ?_, _, by rw [hb2], rfl⟩
              rw [stp]
              k_extra "wk"
        · rintro δ2 ⟨b, hb, rfl⟩
          rw [List.take_length] at hb
          have so2 := (chF_ok w1 ne l2 gl okf (chs h sk w left) (((left.length : Int) + 1, []), s) (fun _ z => z) so (.inr rfl)).1
          rw [← hb] at so2
          have e : rtd h sk w (n + 1) left s = (b.1, putS b.2 left b.1) := by unfold rtd; rw [if_neg c, hg, ← hb]
          have sl := so2.len ho
          rw [e]
          dsimp only
          k_extra "s"
          refine sd_putD ?_ (by k_extra "vs")
          k_extra "go"
          refine ⟨_, _, by k_extra "lk", ?_⟩
          k_extra "go"
          refine ⟨sD b.2, left, _, rfl, by k_extra "lk", by unfold sD; rw [List.length_map]; omega, ?_⟩
          rw [putT_sD]
          k_extra "go"
          all_goals rfl
end
section
/-! plan_for, round_plan, rounds_of -/
def rPf (n : Nat) (as : List D) (kvs : List (List Int × D)) (d : D) (kvs' : List (List Int × D)) : Prop := ∃ h sk left w s, HOk h ∧ GoodL h sk left ∧ left ≠ [] ∧ left.length ≤ n ∧ 1 ≤ w ∧ w ≤ 3 ∧ SeenOk h sk w s ∧ as = [hD h, tI sk, tI left, .int (w : Nat)] ∧ kvs = sD s ∧ d = plD (pfor h sk w n left s).1 ∧ kvs' = sD (pfor h sk w n left s).2
theorem w_plan_for {g : Ga} {k j1 j2 j3 j4 : Nat} (W : Wb g) (A : CallOk g j1 "class_of" (PureC 2 rCo)) (B : CallOk g j2 "classes" (PureC 2 rCls)) (C : CallOk g j3 "patterns" (PureC 3 rPt)) (R : CallOk g j4 "rounds_that_do" (SeenC 4 (rRtd 6))) (hj1 : j1 ≤ k) (hj2 : j2 ≤ k) (hj3 : j3 ≤ k) (hj4 : j4 ≤ k)
    (F : Fd g "plan_for" 19 ["history", "skipped", "left", "w", "seen"]) : ∀ n, CallOk g (k + n + 1) "plan_for" (SeenC 4 (rPf n)) := by
  intro n
  induction n with
  | zero =>
    refine mk_seen (N := ["history", "skipped", "left", "w", "seen", "makes", "rows", "pattern", "part"]) F rfl ⟨rfl, rfl, rfl, by decide +kernel, rfl, by decide +kernel, by decide +kernel⟩ ?_
    rintro as kvs d kvs' - ⟨h, sk, left, w, s, _, _, ne, hl, _⟩
    exact absurd (List.length_eq_zero_iff.mp (by omega)) ne
  | succ n ih =>
    refine mk_seen (N := ["history", "skipped", "left", "w", "seen", "makes", "rows", "pattern", "part"]) F rfl ⟨rfl, rfl, rfl, by decide +kernel, rfl, by decide +kernel, by decide +kernel⟩ ?_
    rintro as kvs d kvs' - ⟨h, sk, left, w, s, ho, gl, ne, hl, w1, w3, so, rfl, rfl, rfl, rfl⟩
    have l6 := good_len ho gl
    have h6 := ho.len
    have hcl := cls_len (h := h) (sk := sk)
    show SDn _ _ _ [.imm (hD h), .imm (tI sk), .imm (tI left), .imm (.int w), .dct (sD s), .un, .un, .un, .un] _
    k_extra "go"
    refine ⟨fun h1 => ?_, fun h1 => ?_⟩
    · have c : left.length = 1 := by have := of_decide_eq_true h1; omega
      have e : pfor h sk w (n + 1) left s = (.found (clsOf (cls h sk) (left.headD 0)), s) := by unfold pfor; rw [if_pos c]
      rw [e, plD_found]
      k_extra "go"
      refine i_call A (by show j1 ≤ k + (n + 1); omega) (by k_extra "nm") ?_
      refine ai_cons (i_call B (by show j2 ≤ k + (n + 1); omega) (by k_extra "nm") ?_)
      k_extra "go"
      refine ⟨_, ⟨h, sk, ho, rfl, rfl⟩, ?_⟩
      k_extra "go"
      refine ⟨.int (left.headD 0), ix_T (atI_some (j := 0) rfl (by rw [List.getElem?_map, headD_get ne]; rfl)), ?_⟩
      k_extra "go"
      refine ⟨_, ⟨cls h sk, left.headD 0, by omega, rfl, rfl⟩, ?_⟩
      k_extra "go"
      all_goals rfl
    · have c : ¬ left.length = 1 := by have := of_decide_eq_false h1; omega
      have pos : 0 < left.length := List.length_pos_iff.mpr ne
      have l2 : 2 ≤ left.length := by omega
      obtain ⟨b1, b2⟩ := rtd_ok w1 6 left s l6 ne gl so
      obtain ⟨b3, _⟩ := b1.2 l2
      have small := part_small gl l2 w1 b3
      obtain ⟨c1, c2, c3⟩ := chs_good gl l2 w1 b3
      have e : pfor h sk w (n + 1) left s = (.round (rtd h sk w 6 left s).1.2 ((ptsD h left (rtd h sk w 6 left s).1.2).foldl (pStep (pfor h sk w n)) ([], (rtd h sk w 6 left s).2)).1, ((ptsD h left (rtd h sk w 6 left s).1.2).foldl (pStep (pfor h sk w n)) ([], (rtd h sk w 6 left s).2)).2) := by
        show (if left.length = 1 then _ else _) = _
        rw [if_neg c]
      rw [e, plD_round]
      generalize hr : rtd h sk w 6 left s = r at *
      k_extra "go"
      refine i_callS R (by show j4 ≤ k + (n + 1); omega) (by k_extra "nm") (by k_extra "vs") ?_
      k_extra "go"
      refine ⟨_, _, _, _, _, by k_extra "lk", ⟨h, sk, left, w, s, ho, gl, ne, l6, w1, w3, so, rfl, rfl, rfl, rfl⟩, ?_⟩
      rw [hr]
      k_extra "go"
      refine ⟨tI r.1.2, ix_T rfl, ?_⟩
      k_extra "go"
      refine sd_setlc [("pattern", 7), ("part", 8)] (by k_extra "nm") rfl (by k_extra "nm") rfl (by k_extra "nm") (iy := 6) rfl (ei_tup ?_)
      refine i_call C (by show j3 ≤ k + (n + 1); omega) (by k_extra "nm") ?_
      k_extra "go"
      refine ⟨_, ⟨h, left, r.1.2, ho, l6, by omega, c1, fun m hm => tst_of (c3 m hm).1, rfl, rfl⟩, ?_⟩
      have pl := pts_len (h := h) (left := left) (ch := r.1.2)
      refine ⟨_, rfl, by rw [List.length_map]; omega, fun j acc δ => ∃ a : List (List Bool × Pln) × Seen, a = ((ptsD h left r.1.2).take j).foldl (pStep (pfor h sk w n)) ([], r.2) ∧ SeenOk h sk w a.2 ∧ acc = a.1.map plRow ∧
        δ = [.imm (hD h), .imm (tI sk), .imm (tI left), .imm (.int w), .dct (sD a.2), .imm (tI r.1.2), .un, .un, .un], ⟨_, rfl, b2, rfl, rfl⟩, ?_, ?_⟩
      · rintro j d acc δ2 hd ⟨a, ha, sa, rfl, rfl⟩
        rw [List.getElem?_map] at hd
        cases hp : (ptsD h left r.1.2)[j]? with
        | none => rw [hp] at hd; cases hd
        | some p =>
          rw [hp] at hd
          cases hd
          have tk2 : (ptsD h left r.1.2).take (j + 1) = (ptsD h left r.1.2).take j ++ [p] := by rw [List.take_succ, hp]; rfl
          obtain ⟨p1, p2, p3⟩ := small p (List.mem_of_getElem? hp)
          have so3 := (pfor_seen ho w1 w3 n p.2 a.2 (by omega) p2 p3 sa).2
          refine ⟨_, tgc_pair (by k_extra "lk") rfl (by k_extra "lk") rfl (by decide) (by k_extra "nm") (by k_extra "nm"), eif_nil ⟨fun _ => ?_, fun z => by cases z⟩⟩
          k_extra "go"
          refine i_callS ih (by show k + n + 1 ≤ k + (n + 1); omega) (by k_extra "nm") (by k_extra "vs") ?_
          k_extra "go"
          refine ⟨_, _, _, _, _, by k_extra "lk", ⟨h, sk, p.2, w, a.2, ho, p3, p2, by omega, w1, w3, sa, rfl, rfl, rfl, rfl⟩, ?_⟩
          k_extra "go"
          refine ⟨_, bk_res rfl, pStep (pfor h sk w n) a p, ?_, so3, ?_, rfl⟩
          · rw [tk2, List.foldl_append, ← ha]; rfl
          · show _ = (a.1 ++ [_]).map plRow
            rw [List.map_append]; rfl
      · rintro acc δ2 ⟨a, ha, sa, rfl, rfl⟩
        rw [List.length_map, List.take_length] at ha
        rw [← ha]
        refine ⟨_, _, by k_extra "lk", rfl, ?_⟩
        k_extra "go"
        all_goals rfl
def rRp (ds : List D) (d : D) : Prop := ∃ h sk w, HOk h ∧ h ≠ [] ∧ 1 ≤ w ∧ w ≤ 3 ∧ ds = [hD h, tI sk, .int (w : Nat)] ∧ d = plD (rpl h sk w)
theorem w_round_plan {g : Ga} {k j1 j2 : Nat} (W : Wb g) (A : CallOk g j1 "heads_of" (PureC 2 rHe)) (B : CallOk g j2 "plan_for" (SeenC 4 (rPf 6))) (hj1 : j1 ≤ k) (hj2 : j2 ≤ k) (F : Fd g "round_plan" 20 ["history", "skipped", "w"]) : CallOk g (k + 1) "round_plan" (PureC 3 rRp) := by
  refine mk_pure (N := ["history", "skipped", "w"]) F ⟨rfl, rfl, rfl, by decide +kernel, rfl, by decide +kernel, by decide +kernel⟩ ?_
  rintro ds d - ⟨h, sk, w, ho, hn, w1, w3, rfl, rfl⟩
  show SDn _ _ _ [.imm (hD h), .imm (tI sk), .imm (.int w)] _
  k_extra "s"
  k_extra "s"
  refine i_callS0 B hj2 (by k_extra "nm") ?_
  k_extra "go"
  refine i_call A hj1 (by k_extra "nm") ?_
  k_extra "go"
  refine ⟨_, ⟨h, sk, ho, rfl, rfl⟩, ?_⟩
  k_extra "go"
  refine ⟨_, _, ⟨h, sk, heads h sk, w, [], ho, heads_good, heads_ne hn, heads_len ho, w1, w3, seen_nil, rfl, rfl, rfl, rfl⟩, ?_⟩
  k_extra "go"
  all_goals rfl
def rRo (n : Nat) (ds : List D) (d : D) : Prop := ∃ p, PlOk n p ∧ ds = [plD p] ∧ d = .int (rof p)
theorem w_rounds_of {g : Ga} {k : Nat} (W : Wb g) (F : Fd g "rounds_of" 21 ["plan"]) : ∀ n, CallOk g (k + n + 1) "rounds_of" (PureC 1 (rRo n)) := by
  intro n
  induction n with
  | zero =>
    refine mk_pure (N := ["plan", "pattern", "part"]) F ⟨rfl, rfl, rfl, by decide +kernel, rfl, by decide +kernel, by decide +kernel⟩ ?_
    rintro ds d - ⟨p, hp, rfl, rfl⟩
    cases p with
    | round ms rows => exact absurd hp (by intro z; exact z)
    | found c =>
      rw [plD_found, rof_found]
      show SDn _ _ _ [.imm (.tuple [.str "found", .int c]), .un, .un] _
      k_extra "go"
      refine ⟨.str "found", ix_T rfl, ?_⟩
      k_extra "go"
      refine ⟨fun _ => ?_, fun z => absurd z (by decide +kernel)⟩
      k_extra "go"
      all_goals rfl
  | succ n ih =>
    refine mk_pure (N := ["plan", "pattern", "part"]) F ⟨rfl, rfl, rfl, by decide +kernel, rfl, by decide +kernel, by decide +kernel⟩ ?_
    rintro ds d - ⟨p, hp, rfl, rfl⟩
    cases p with
    | found c =>
      rw [plD_found, rof_found]
      show SDn _ _ _ [.imm (.tuple [.str "found", .int c]), .un, .un] _
      k_extra "go"
      refine ⟨.str "found", ix_T rfl, ?_⟩
      k_extra "go"
      refine ⟨fun _ => ?_, fun z => absurd z (by decide +kernel)⟩
      k_extra "go"
      all_goals rfl
    | round ms rows =>
      obtain ⟨r1, r2, r3, r4⟩ := hp
      rw [plD_round, rof_round]
      show SDn _ _ _ [.imm (.tuple [.str "round", tI ms, .tuple (rows.map plRow)]), .un, .un] _
      k_extra "go"
      refine ⟨.str "round", ix_T rfl, ?_⟩
      k_extra "go"
      refine ⟨fun z => absurd z (by decide +kernel), fun _ => ?_⟩
      k_extra "go"
      refine ev_lcm plRow [("pattern", 1), ("part", 2)] (by k_extra "nm") (ei_tup ?_)
      k_extra "go"
      refine ⟨.tuple (rows.map plRow), ix_T rfl, ?_⟩
      k_extra "go"
      refine ⟨fun q => .int (rof q.2), fun q hq => ⟨_, tgc_pair (by k_extra "lk") rfl (by k_extra "lk") rfl (by decide) (by k_extra "nm") (by k_extra "nm"), ?_⟩, ?_⟩
      · refine i_call ih (by show k + n + 1 ≤ k + (n + 1); omega) (by k_extra "nm") ?_
        k_extra "go"
        refine ⟨_, ⟨q.2, r4 q hq, rfl, rfl⟩, ?_⟩
        k_extra "go"
      have em : rows.map (fun q => PyData.int (rof q.2)) = (rows.map fun q => rof q.2).map .int := by rw [List.map_map]; rfl
      rw [em]
      have ne : (rows.map fun q => rof q.2) ≠ [] := fun e => r1 (List.map_eq_nil_iff.mp e)
      obtain ⟨m1, m2⟩ := maxI_spec ne
      k_extra "go"
      refine ⟨_, c_max m1 m2, ?_⟩
      k_extra "go"
      all_goals rfl
end
section
set_option autoImplicit false
/-! ### round_plan's plan holds -/
theorem keepF_sub {α β : Type} [DecidableEq β] (row : α → β) (ok : β → Prop) [DecidablePred ok] : ∀ (ms : List α) (s : List β × List α), ∃ l, l.Sublist ms ∧ (ms.foldl (keepF row ok) s).2 = s.2 ++ l
  | [], s => ⟨[], List.Sublist.slnil, by simp⟩
  | m :: ms, s => by
    obtain ⟨l, h1, h2⟩ := keepF_sub row ok ms (keepF row ok s m)
    rw [List.foldl_cons, h2]
    by_cases c : ok (row m) ∧ row m ∉ s.1
    · refine ⟨m :: l, h1.cons₂ _, ?_⟩
      unfold keepF
      rw [if_pos c]
      simp
    · refine ⟨l, h1.cons _, ?_⟩
      unfold keepF
      rw [if_neg c]
theorem tsts_sl {h : Hist} {sk : List Int} : (tsts h sk).Sublist (tst h sk) := by
  unfold tsts
  rw [ts_keep]
  obtain ⟨l, h1, h2⟩ := keepF_sub (bby h (cls h sk)) (fun r => 0 < r.length ∧ r.length < (cls h sk).length) (tst h sk) ([], [])
  rw [h2, List.nil_append]; exact h1
theorem usef_sl {h : Hist} {sk left : List Int} : (usef h sk left).Sublist (tsts h sk) := by
  unfold usef
  rw [um_keep]
  obtain ⟨l, h1, h2⟩ := keepF_sub (prt h left) (fun r => 0 < r.length ∧ r.length < left.length) (tsts h sk) ([], [])
  rw [h2, List.nil_append]; exact h1
theorem upto_pw {n : Nat} : (upto n).Pairwise (· < ·) := by
  unfold upto
  rw [List.pairwise_map]
  exact List.pairwise_lt_range.imp fun h => by omega
theorem tst_pw {h : Hist} {sk : List Int} : (tst h sk).Pairwise (· < ·) := upto_pw.filter _
theorem tst_ok {h : Hist} {sk : List Int} {m : Int} (hm : m ∈ tst h sk) : 0 ≤ m ∧ m < (h.length : Int) ∧ m ∉ sk := by
  obtain ⟨h1, h2⟩ := List.mem_filter.mp hm
  have := upto_mem.mp h1
  exact ⟨this.1, this.2, by simpa using h2⟩
theorem okMs_of {n : Nat} {sk : List Int} : ∀ {ms : List Int} {b : Int}, (∀ m ∈ ms, b < m) → ms.Pairwise (· < ·) → (∀ m ∈ ms, m < (n : Int) ∧ m ∉ sk) → okMs n sk b (ms.map .int) = true
  | [], _, _, _, _ => rfl
  | m :: ms, b, h1, h2, h3 => by
    obtain ⟨p1, p2⟩ := List.pairwise_cons.mp h2
    show (decide (b < m ∧ m < (n : Int) ∧ m ∉ sk) && okMs n sk m (ms.map .int)) = true
    have hm := h3 m List.mem_cons_self
    rw [decide_eq_true ⟨h1 m List.mem_cons_self, hm.1, hm.2⟩, Bool.true_and]
    exact okMs_of p1 p2 fun x hx => h3 x (List.mem_cons_of_mem _ hx)
theorem mark_brk {h : Hist} {sk : List Int} {c d m : Int} (e : mark h sk c = mark h sk d) (hm : m ∈ tst h sk) : brk h c m = brk h d m := by
  unfold mark at e
  exact List.map_inj_left.mp e m hm
theorem mark_pat {h : Hist} {sk ms : List Int} {c d : Int} (e : mark h sk c = mark h sk d) (hm : ∀ m ∈ ms, m ∈ tst h sk) : pat h ms c = pat h ms d := by
  unfold pat
  exact List.map_congr_left fun m h => mark_brk e (hm m h)
def ext (h : Hist) (sk left : List Int) : List Int := (upto h.length).filter fun c => left.any fun d => decide (mark h sk d = mark h sk c)
theorem ext_mem {h : Hist} {sk left : List Int} {c : Int} : c ∈ ext h sk left ↔ (0 ≤ c ∧ c < (h.length : Int)) ∧ ∃ d ∈ left, mark h sk d = mark h sk c := by
  unfold ext
  rw [List.mem_filter, upto_mem, List.any_eq_true]
  simp
theorem head_up {h : Hist} {sk : List Int} {c : Int} (hc : c ∈ heads h sk) : 0 ≤ c ∧ c < (h.length : Int) := by
  obtain ⟨l, h1, h2, h3⟩ := heads_mark hc
  have hp := grp_part _ _ _ _ h1
  have : c ∈ l := by
    cases l with
    | nil => exact absurd rfl h3
    | cons x r =>
      have : x = c := h2
      rw [this]; exact List.mem_cons_self
  rw [hp] at this
  exact upto_mem.mp (List.mem_filter.mp this).1
theorem ext_heads {h : Hist} {sk : List Int} : ext h sk (heads h sk) = upto h.length := by
  unfold ext
  refine List.filter_eq_self.mpr fun c hc => ?_
  rw [List.any_eq_true]
  have hm := ((grp_keys (mark h sk) (upto h.length)).2 (mark h sk c)).mpr ⟨c, hc, rfl⟩
  obtain ⟨⟨k, l⟩, hp, e⟩ := List.mem_map.mp hm
  obtain ⟨q1, _, q3⟩ := grp_mem _ _ _ hp
  have hl : l.headD 0 ∈ l := by
    cases l with
    | nil => exact absurd rfl q1
    | cons x r => exact List.mem_cons_self
  refine ⟨l.headD 0, ?_, ?_⟩
  · unfold heads cls clsT
    rw [List.map_map]
    exact List.mem_map.mpr ⟨(k, l), hp, rfl⟩
  · rw [decide_eq_true_eq, (q3 _ hl).2]; exact e
theorem due_ext {h : Hist} {sk left ms : List Int} (hs : ∀ c ∈ left, c ∈ heads h sk) (hm : ∀ m ∈ ms, m ∈ tst h sk) : due h (ext h sk left) ms = due h left ms := by
  unfold due
  refine srtB_eq ((List.perm_ext_iff_of_nodup (grp_keys _ _).1 (grp_keys _ _).1).mpr fun k => ?_)
  show k ∈ (grp (pat h ms) (ext h sk left)).map (·.1) ↔ k ∈ (grp (pat h ms) left).map (·.1)
  rw [(grp_keys _ _).2, (grp_keys _ _).2]
  constructor
  · rintro ⟨c, hc, e⟩
    obtain ⟨_, d, hd, ed⟩ := ext_mem.mp hc
    exact ⟨d, hd, by rw [mark_pat ed hm]; exact e⟩
  · rintro ⟨c, hc, e⟩
    exact ⟨c, ext_mem.mpr ⟨head_up (hs c hc), c, hc, rfl⟩, e⟩
theorem part_ext {h : Hist} {sk left ms : List Int} {k : List Bool} (hm : ∀ m ∈ ms, m ∈ tst h sk) : partOf h (ext h sk left) ms k = ext h sk (partOf h left ms k) := by
  unfold partOf ext
  rw [List.filter_filter]
  refine List.filter_congr fun c _ => ?_
  rw [Bool.eq_iff_iff, Bool.and_eq_true, decide_eq_true_eq, List.any_eq_true, List.any_eq_true]
  constructor
  · rintro ⟨e, d, hd, ed⟩
    have ed' := of_decide_eq_true ed
    exact ⟨d, List.mem_filter.mpr ⟨hd, decide_eq_true (by rw [mark_pat ed' hm]; exact e)⟩, ed⟩
  · rintro ⟨d, hd, ed⟩
    have ed' := of_decide_eq_true ed
    obtain ⟨h1, h2⟩ := List.mem_filter.mp hd
    exact ⟨by rw [← mark_pat ed' hm]; exact of_decide_eq_true h2, d, h1, ed⟩
theorem pts_ext {h : Hist} {sk left ms : List Int} (hs : ∀ c ∈ left, c ∈ heads h sk) (hm : ∀ m ∈ ms, m ∈ tst h sk) : ptsD h (ext h sk left) ms = (ptsD h left ms).map fun p => (p.1, ext h sk p.2) := by
  unfold ptsD
  rw [due_ext hs hm, List.map_map]
  exact List.map_congr_left fun k _ => by show (k, _) = (k, _); rw [part_ext hm]
theorem rowsG_of {ok : D → List Bool → Bool} {f : List Int → D → Bool} : ∀ {rs : List D} {ps : List (List Bool × List Int)}, rs.length = ps.length → (∀ (i : Nat) r p, rs[i]? = some r → ps[i]? = some p → ok r p.1 = true ∧ f p.2 (sndD r) = true) → rowsG ok f rs ps = true
  | [], [], _, _ => rfl
  | [], _ :: _, e, _ => by simp at e
  | _ :: _, [], e, _ => by simp at e
  | r :: rs, p :: ps, e, h => by
    have h0 := h 0 r p rfl rfl
    show (ok r p.1 && f p.2 (sndD r) && rowsG ok f rs ps) = true
    rw [h0.1, h0.2, Bool.true_and, Bool.true_and]
    exact rowsG_of (by simpa using e) fun i r p hr hp => h (i + 1) r p (by simpa using hr) (by simpa using hp)
structure PG (h : Hist) (sk : List Int) (w n : Nat) (left : List Int) (p : Pln) : Prop where
  s : PlS n p
  o : PlOk n p
  lo : 0 ≤ rof p
  hi : rof p ≤ n
  ok : ∀ R : Nat, rof p ≤ R → gh (areM h.length sk w) plainR h sk R (ext h sk left) (plD p) = true
theorem found_ok {h : Hist} {sk : List Int} {w n : Nat} {c : Int} (hc : c ∈ heads h sk) : PG h sk w n [c] (.found (clsOf (cls h sk) c)) := by
  have hup := head_up hc
  obtain ⟨j0, l0, hj0, hl0⟩ := cls_of (sk := sk) hup
  have hsome : ∃ j, (cls h sk).findIdx? (fun l => decide (c ∈ l)) = some j := by
    cases e : (cls h sk).findIdx? (fun l => decide (c ∈ l)) with
    | some j => exact ⟨j, rfl⟩
    | none =>
      rw [List.findIdx?_eq_none_iff] at e
      have := e l0 (List.mem_of_getElem? hj0)
      simp [hl0] at this
  obtain ⟨j, hj⟩ := hsome
  obtain ⟨hjl, hjc, _⟩ := List.findIdx?_eq_some_iff_getElem.mp hj
  have hcj : c ∈ (cls h sk)[j] := by simpa using hjc
  have e : clsOf (cls h sk) c = j := by unfold clsOf; rw [hj]
  rw [e]
  refine ⟨by cases n <;> trivial, by cases n <;> trivial, by rw [rof_found]; omega, by rw [rof_found]; omega, fun R _ => ?_⟩
  rw [plD_found, gh2]
  have hs : isS (.str "found") "found" = true := by decide +kernel
  rw [hs, Bool.true_and]
  show (decide (0 ≤ (j : Int) ∧ (j : Int) < ((cls h sk).length : Int)) && allIn (ext h sk [c]) ((cls h sk).getD ((j : Int)).toNat [])) = true
  rw [decide_eq_true ⟨by omega, by omega⟩, Bool.true_and]
  unfold allIn
  rw [List.all_eq_true]
  intro x hx
  obtain ⟨hxu, d, hd, ed⟩ := ext_mem.mp hx
  rw [List.mem_singleton] at hd
  subst hd
  rw [decide_eq_true_eq, Int.toNat_natCast, List.getD_eq_getElem?_getD, List.getElem?_eq_getElem hjl]
  show x ∈ (cls h sk)[j]
  have hjt : j < (clsT h sk).length := by unfold cls at hjl; rwa [List.length_map] at hjl
  have hcl : (cls h sk)[j] = ((clsT h sk)[j]).2 := by
    have e2 : (cls h sk)[j]? = some ((clsT h sk)[j]).2 := by unfold cls; rw [List.getElem?_map, List.getElem?_eq_getElem hjt]; rfl
    rw [List.getElem?_eq_getElem hjl] at e2
    exact Option.some.inj e2
  have hp : ((clsT h sk)[j].1, (clsT h sk)[j].2) ∈ grp (mark h sk) (upto h.length) := List.getElem_mem hjt
  have hpt := grp_part _ _ _ _ hp
  rw [hcl, hpt, List.mem_filter] at hcj ⊢
  exact ⟨upto_mem.mpr hxu, by rw [← ed]; exact hcj.2⟩
theorem pfor_ok {h : Hist} {sk : List Int} {w : Nat} (ho : HOk h) (hw : 1 ≤ w) (hw3 : w ≤ 3) : ∀ (n : Nat) (left : List Int) (s : Seen), left.length ≤ n → left ≠ [] → GoodL h sk left → SeenOk h sk w s →
    PG h sk w n left (pfor h sk w n left s).1 ∧ SeenOk h sk w (pfor h sk w n left s).2
  | 0, left, s, hl, ne, _, _ => absurd (List.length_eq_zero_iff.mp (by omega)) ne
  | n + 1, left, s, hl, ne, g, o => by
    unfold pfor
    by_cases c : left.length = 1
    · rw [if_pos c]
      obtain ⟨x, rfl⟩ : ∃ x, left = [x] := by
        match left, c with
        | [x], _ => exact ⟨x, rfl⟩
      exact ⟨found_ok (g.sub x List.mem_cons_self), o⟩
    rw [if_neg c]
    have pos : 0 < left.length := List.length_pos_iff.mpr ne
    have l2 : 2 ≤ left.length := by omega
    have l6 := good_len ho g
    obtain ⟨b1, b2⟩ := rtd_ok hw 6 left s l6 ne g o
    obtain ⟨b3, _⟩ := b1.2 l2
    have small := part_small g l2 hw b3
    obtain ⟨c1, c2, c3⟩ := chs_good g l2 hw b3
    have csub := (chs_mem b3).2
    obtain ⟨r1, qs, r2, r3, r4⟩ := pF_ok (L := left.length) (G := fun l q => PG h sk w n l q) (fun l s h1 h2 h3 h4 => pfor_ok ho hw hw3 n l s (by omega) h2 h3 h4) (ptsD h left (rtd h sk w 6 left s).1.2) ([], (rtd h sk w 6 left s).2) small b2
    rw [r2, List.nil_append]
    generalize (rtd h sk w 6 left s).1.2 = ms at *
    have lq : qs.length = (ptsD h left ms).length := by have := congrArg List.length r3; simpa using this
    have hpl := pts_len (h := h) (left := left) (ch := ms)
    have qne : qs ≠ [] := fun e => by
      rw [e] at lq
      exact pts_ne (h := h) (ch := ms) ne (List.length_eq_zero_iff.mp lq.symm)
    have hmt : ∀ m ∈ ms, m ∈ tst h sk := fun m hm => (c3 m hm).1
    have each : ∀ (i : Nat) q, qs[i]? = some q → ∃ p, (ptsD h left ms)[i]? = some p ∧ q.1 = p.1 ∧ PG h sk w n p.2 q.2 := fun i q hq => by
      have hi := (List.getElem?_eq_some_iff.mp hq).1
      obtain ⟨p, hp⟩ : ∃ p, (ptsD h left ms)[i]? = some p := ⟨_, List.getElem?_eq_getElem (by omega)⟩
      refine ⟨p, hp, ?_, r4 i p q hp hq⟩
      have e := congrArg (fun l => l[i]?) r3
      simp only [List.getElem?_map, hp, hq, Option.map_some, Option.some.injEq] at e
      exact e
    have pkey : ∀ {i : Nat} {p : List Bool × List Int}, (ptsD h left ms)[i]? = some p → p.1 ∈ due h left ms := fun {i p} hp => by
      have := List.mem_of_getElem? hp
      unfold ptsD at this
      obtain ⟨k, hk, e⟩ := List.mem_map.mp this
      rw [← e]; exact hk
    have all : ∀ q ∈ qs, q.1.length ≤ 3 ∧ ∃ l, PG h sk w n l q.2 := fun q hq => by
      obtain ⟨i, hi⟩ := List.getElem?_of_mem hq
      obtain ⟨p, hp, e, gp⟩ := each i q hi
      have := due_len (pkey hp)
      exact ⟨by rw [e, this]; omega, _, gp⟩
    have mne : qs.map (fun q => rof q.2) ≠ [] := fun e => qne (List.map_eq_nil_iff.mp e)
    obtain ⟨mx1, mx2⟩ := maxI_spec mne
    have bnd : 0 ≤ maxI (qs.map fun q => rof q.2) ∧ maxI (qs.map fun q => rof q.2) ≤ n := by
      obtain ⟨q, hq, e⟩ := List.mem_map.mp mx1
      obtain ⟨_, l, gp⟩ := all q hq
      rw [← e]
      exact ⟨gp.lo, gp.hi⟩
    refine ⟨⟨⟨c1, by omega, qne, by omega, fun q hq => ⟨(all q hq).1, (all q hq).2.elim fun l gp => gp.s⟩⟩, ⟨qne, by omega, by omega, fun q hq => (all q hq).2.elim fun l gp => gp.o⟩, by rw [rof_round]; omega, by rw [rof_round]; omega, fun R hR => ?_⟩, r1⟩
    rw [rof_round] at hR
    obtain ⟨r, rfl⟩ : ∃ r, R = r + 1 := ⟨R - 1, by omega⟩
    have hs : isS (.str "round") "round" = true := by decide +kernel
    have ham : areM h.length sk w (tI ms) = true := by
      show (decide (1 ≤ (ms.map PyData.int).length ∧ ((ms.map PyData.int).length : Int) ≤ w) && okMs h.length sk (-1) (ms.map .int)) = true
      rw [List.length_map, decide_eq_true ⟨List.length_pos_iff.mpr c1, by omega⟩, Bool.true_and]
      exact okMs_of (fun m hm => by have := (tst_ok (hmt m hm)).1; omega) (tst_pw.sublist (csub.trans (usef_sl.trans tsts_sl))) fun m hm => (tst_ok (hmt m hm)).2
    have hmof : msOf (tI ms) = ms := by
      show (ms.map PyData.int).filterMap intOf = ms
      rw [List.filterMap_map]
      have : (intOf ∘ PyData.int) = some := rfl
      rw [this, List.filterMap_some]
    rw [plD_round, gh3, hs, ham, hmof, Bool.true_and, Bool.true_and]
    show (decide ((qs.map plRow).length = (ptsD h (ext h sk left) ms).length) && rowsG plainR (gh (areM h.length sk w) plainR h sk r) (qs.map plRow) (ptsD h (ext h sk left) ms)) = true
    rw [pts_ext g.sub hmt]
    have hlen : (qs.map plRow).length = ((ptsD h left ms).map fun p => (p.1, ext h sk p.2)).length := by rw [List.length_map, List.length_map, lq]
    rw [decide_eq_true hlen, Bool.true_and]
    refine rowsG_of hlen fun i row p hr hp => ?_
    rw [List.getElem?_map] at hr hp
    cases eq : qs[i]? with
    | none => rw [eq] at hr; cases hr
    | some q =>
      rw [eq] at hr
      cases hr
      obtain ⟨p', hp', e, gp⟩ := each i q eq
      rw [hp'] at hp
      cases hp
      refine ⟨?_, ?_⟩
      · show (bolsL (q.1.map .bool) == some p'.1) = true
        rw [bolsL_map, e]; simp
      · show gh (areM h.length sk w) plainR h sk r (ext h sk p'.2) (plD q.2) = true
        refine gp.ok r ?_
        have := mx2 (rof q.2) (List.mem_map.mpr ⟨q, List.mem_of_getElem? eq, rfl⟩)
        omega
theorem rpl_ok {h : Hist} {sk : List Int} {w : Nat} (ho : HOk h) (hn : h ≠ []) (hw : 1 ≤ w) (hw3 : w ≤ 3) : PlS 6 (rpl h sk w) ∧ PlOk 6 (rpl h sk w) ∧ 0 ≤ rof (rpl h sk w) ∧ rof (rpl h sk w) ≤ 6 ∧
    ∀ R : Nat, rof (rpl h sk w) ≤ R → gh (areM h.length sk w) plainR h sk R (upto h.length) (plD (rpl h sk w)) = true := by
  obtain ⟨p, _⟩ := pfor_ok (sk := sk) ho hw hw3 6 (heads h sk) [] (heads_len ho) (heads_ne hn) heads_good seen_nil
  refine ⟨p.s, p.o, p.lo, p.hi, fun R hR => ?_⟩
  have := p.ok R hR
  rw [ext_heads] at this
  exact this
end
section
set_option autoImplicit false
/-! law -/
def rLaw (ds : List D) (d : D) : Prop := ∃ ns : List Int, ds = [scrD ns] ∧ d = .bool true
theorem w_law {g : Ga} {k j0 j1 j2 j3 j4 j5 j6 j7 j8 j9 : Nat} (W : Wb g) (DG : CallOk g j0 "_law_digits" (PureC 3 rDig)) (HI : CallOk g j1 "_law_history" (BoxC 1 rHis)) (SK : CallOk g j2 "_law_skips" (BoxC 1 rSk)) (DR : CallOk g j3 "_law_draw" (BoxC 1 rDraw)) (RP : CallOk g j4 "round_plan" (PureC 3 rRp)) (RO : CallOk g j5 "rounds_of" (PureC 1 (rRo 6)))
    (SP : CallOk g j6 "_law_spoilt" (BoxC 1 (rSp 6))) (AG : CallOk g j7 "_law_agrees" (PureC 5 rAg)) (BL : CallOk g j8 "_law_built" (BoxC 5 (rBl 5))) (JR : CallOk g j9 "judge_rounds" (PureC 5 (rJr 8))) (h0 : j0 ≤ k) (h1 : j1 ≤ k) (h2 : j2 ≤ k) (h3 : j3 ≤ k) (h4 : j4 ≤ k) (h5 : j5 ≤ k) (h6 : j6 ≤ k) (h7 : j7 ≤ k) (h8 : j8 ≤ k) (h9 : j9 ≤ k)
    (F : Fd g "law" 45 ["_law_script"]) : CallOk g (k + 1) "law" (PureC 1 rLaw) := by
  refine mk_pure (N := ["_law_script", "_law_box", "_law_history_here", "_law_skipped", "_law_w", "_law_plan", "_law_r", "_law_every", "_law_turn", "_law_other"]) F ⟨rfl, rfl, rfl, by decide +kernel, rfl, by decide +kernel, by decide +kernel⟩ ?_
  rintro ds d - ⟨ns, rfl, rfl⟩
  show SDn _ _ _ [.imm (scrD ns), .un, .un, .un, .un, .un, .un, .un, .un, .un] _
  k_extra "go"
  refine i_call DG h0 (by k_extra "nm") ?_
  k_extra "go"
  refine ⟨_, ⟨ns, rfl, rfl⟩, ?_⟩
  k_extra "go"
  show EvD _ _ [.imm (scrD ns), bxS (dgs ns 63) 0, .un, .un, .un, .un, .un, .un, .un, .un] _
  generalize dgs ns 63 = zs
  have r6 := drw_rg (ds := zs) (a := 0) (m := 6) (by omega)
  have hm1 : 1 ≤ manyH zs 0 := by unfold manyH; omega
  have hm6 : manyH zs 0 ≤ 6 := by unfold manyH; omega
  have ho : HOk (hisK zs 1 (manyH zs 0) (manyH zs 0)).2.1 := by
    have o := hisK_ok (ds := zs) (a := 1) (many := manyH zs 0) _ hm6
    exact ⟨by rw [o.hl]; exact hm6, o.par, o.low⟩
  have hlen : 0 < (hisK zs 1 (manyH zs 0) (manyH zs 0)).2.1.length := by
    rw [(hisK_ok (ds := zs) (a := 1) (many := manyH zs 0) _ hm6).hl]; omega
  refine i_callB HI h1 (by k_extra "nm") (by k_extra "lk") rfl (by k_extra "vs") ?_
  k_extra "go"
  refine ⟨_, _, _, _, _, by k_extra "lk", ⟨rfl, rfl, rfl⟩, ?_⟩
  k_extra "st"
  rw [Nat.zero_add]
  generalize (hisK zs 1 (manyH zs 0) (manyH zs 0)).2.1 = h at *
  generalize (hisK zs 1 (manyH zs 0) (manyH zs 0)).2.2 = a1
  have hl6 := ho.len
  have hne : h ≠ [] := List.length_pos_iff.mp hlen
  k_extra "go"
  refine i_callB SK h2 (by k_extra "nm") (by k_extra "lk") rfl (by k_extra "vs") ?_
  k_extra "go"
  refine ⟨_, _, _, _, _, by k_extra "lk", ⟨h, ho, rfl, rfl, rfl⟩, ?_⟩
  k_extra "st"
  generalize skL zs a1 h.length = sk
  generalize a1 + h.length = a2
  k_extra "go"
  refine i_callB DR h3 (by k_extra "nm") (by k_extra "lk") rfl (by k_extra "vs") ?_
  k_extra "go"
  refine ⟨_, _, _, _, _, by k_extra "lk", ⟨3, by omega, rfl, rfl, rfl⟩, ?_⟩
  k_extra "o"
  have r3 := drw_rg (ds := zs) (a := a2) (m := 3) (by omega)
  obtain ⟨w, hw⟩ : ∃ w : Nat, 1 + drw zs a2 3 = w := ⟨(1 + drw zs a2 3).toNat, by omega⟩
  have hw1 : 1 ≤ w := by omega
  have hw3 : w ≤ 3 := by omega
  rw [hw]
  k_extra "st"
  obtain ⟨ps, po, lo, hi, pok⟩ := rpl_ok (sk := sk) ho hne hw1 hw3
  k_extra "go"
  refine i_call RP h4 (by k_extra "nm") ?_
  k_extra "go"
  refine ⟨_, ⟨h, sk, w, ho, hne, hw1, hw3, rfl, rfl⟩, ?_⟩
  k_extra "st"
  generalize rpl h sk w = p at *
  obtain ⟨r0, hr0⟩ : ∃ r0 : Nat, rof p = r0 := ⟨(rof p).toNat, by omega⟩
  rw [hr0] at lo hi pok
  k_extra "go"
  refine i_call RO h5 (by k_extra "nm") ?_
  k_extra "go"
  refine ⟨_, ⟨p, po, rfl, rfl⟩, ?_⟩
  rw [hr0]
  refine i_callB DR h3 (by k_extra "nm") (by k_extra "lk") rfl (by k_extra "vs") ?_
  k_extra "go"
  refine ⟨_, _, _, _, _, by k_extra "lk", ⟨2, by omega, rfl, rfl, rfl⟩, ?_⟩
  k_extra "o"
  have r2 := drw_rg (ds := zs) (a := a2 + 1) (m := 2) (by omega)
  obtain ⟨r1, hr1⟩ : ∃ r1 : Nat, (r0 : Int) + drw zs (a2 + 1) 2 = r1 := ⟨((r0 : Int) + drw zs (a2 + 1) 2).toNat, by omega⟩
  have hr1b : r1 ≤ 8 := by omega
  rw [hr1]
  k_extra "st"
  generalize a2 + 1 + 1 = a3
  refine sdn_cons (sd_set (i_tupR (by k_extra "nm") (by k_extra "bn") (by k_extra "nm") (by k_extra "bn") ?_) (by k_extra "lo") (by k_extra "tp"))
  k_extra "go"
  refine ⟨by omega, by omega, ?_⟩
  rw [Int.toNat_natCast]
  k_extra "st"
  refine sdn_cut (fun δ1 => ∃ a4, δ1 = [.imm (scrD ns), bxS zs a4, .imm (hD h), .imm (tI sk), .imm (.int w), .imm (plD p), .imm (.int r1), .imm (tI (upto h.length)), .un, .un]) (sd_forg PyData.int ?_) ?_
  · k_extra "go"
    refine ⟨by omega, by omega, upto 6, rg_upto (n := 6), fun i δ => ∃ a', δ = [.imm (scrD ns), bxS zs a', .imm (hD h), .imm (tI sk), .imm (.int w), .imm (plD p), .imm (.int r1), .imm (tI (upto h.length)), .un, .un], ⟨_, by k_extra "wk", a3, rfl⟩, ?_, ?_⟩
    · rintro i x δ2 hx ⟨a', rfl⟩
      obtain ⟨hi2, rfl⟩ := upto_get hx
      refine ⟨[.imm (scrD ns), bxS zs a', .imm (hD h), .imm (tI sk), .imm (.int w), .imm (plD p), .imm (.int r1), .imm (tI (upto h.length)), .imm (.int i), .un], tgd_name (by k_extra "lk") rfl (by k_extra "lo") (by k_extra "tp"), ?_⟩
      k_extra "go"
      refine i_callB SP h6 (by k_extra "nm") (by k_extra "lk") rfl (by k_extra "vs") ?_
      k_extra "go"
      refine ⟨_, _, _, _, _, by k_extra "lk", ⟨p, ps, rfl, rfl, rfl⟩, ?_⟩
      k_extra "go"
      refine i_call AG h7 (by k_extra "nm") ?_
      k_extra "go"
      refine ⟨_, ⟨h, sk, w, r1, _, ho, hw3, hr1b, (spo_ok (by omega) ps).1 r1, rfl, rfl⟩, ?_⟩
      k_extra "go"
      exact ⟨_, by k_extra "wk", _, rfl⟩
    · rintro δ2 ⟨a', rfl⟩
      exact ⟨a', rfl⟩
  rintro δ1 ⟨a4, rfl⟩
  have hun : upto h.length ≠ [] := fun e => by
    have := congrArg List.length e
    rw [upto_len] at this
    simp only [List.length_nil] at this
    omega
  refine sdn_cut (fun δ1 => ∃ a5, δ1 = [.imm (scrD ns), bxS zs a5, .imm (hD h), .imm (tI sk), .imm (.int w), .imm (plD p), .un, .imm (tI (upto h.length)), .un, .un]) (sd_forg PyData.int ?_) ?_
  · k_extra "go"
    refine ⟨by omega, by omega, upto 8, rg_upto (n := 8), fun i δ => ∃ a', δ = [.imm (scrD ns), bxS zs a', .imm (hD h), .imm (tI sk), .imm (.int w), .imm (plD p), .un, .imm (tI (upto h.length)), .un, .un], ⟨_, by k_extra "wk", a4, rfl⟩, ?_, ?_⟩
    · rintro i x δ2 hx ⟨a', rfl⟩
      obtain ⟨hi2, rfl⟩ := upto_get hx
      refine ⟨[.imm (scrD ns), bxS zs a', .imm (hD h), .imm (tI sk), .imm (.int w), .imm (plD p), .un, .imm (tI (upto h.length)), .imm (.int i), .un], tgd_name (by k_extra "lk") rfl (by k_extra "lo") (by k_extra "tp"), ?_⟩
      k_extra "go"
      refine i_callB DR h3 (by k_extra "nm") (by k_extra "lk") rfl (by k_extra "vs") ?_
      k_extra "go"
      refine ⟨_, _, _, _, _, by k_extra "lk", ⟨7, by omega, rfl, rfl, rfl⟩, ?_⟩
      have r7 := drw_rg (ds := zs) (a := a') (m := 7) (by omega)
      obtain ⟨r2', hr2⟩ : ∃ r2 : Nat, drw zs a' 7 = r2 := ⟨(drw zs a' 7).toNat, by omega⟩
      have hr2b : r2' ≤ 8 := by omega
      rw [hr2]
      k_extra "go"
      refine i_callB BL h8 (by k_extra "nm") (by k_extra "lk") rfl (by k_extra "vs") ?_
      k_extra "go"
      refine ⟨_, _, _, _, _, by k_extra "lk", ⟨h, sk, upto h.length, w, ho, hlen, hw1, hw3, hun, by rw [upto_len]; exact hl6, fun c hc => upto_mem.mp hc, rfl, rfl, rfl⟩, ?_⟩
      k_extra "go"
      refine i_call AG h7 (by k_extra "nm") ?_
      k_extra "go"
      refine ⟨_, ⟨h, sk, w, r2', _, ho, hw3, hr2b, (blt_ok hlen hw1 hw3 5 _ _ (by omega) (by rw [upto_len]; exact hl6)).1 r2', rfl, rfl⟩, ?_⟩
      k_extra "go"
      exact ⟨_, by k_extra "wk", _, rfl⟩
    · rintro δ2 ⟨a', rfl⟩
      exact ⟨a', rfl⟩
  rintro δ1 ⟨a5, rfl⟩
  k_extra "s"
  k_extra "s"
  refine ev_cmp ?_ rfl
  refine i_call JR h9 (by k_extra "nm") ?_
  k_extra "go"
  refine i_call RO h5 (by k_extra "nm") ?_
  k_extra "go"
  refine ⟨_, ⟨p, po, rfl, rfl⟩, ?_⟩
  rw [hr0]
  k_extra "go"
  refine ⟨_, ⟨h, sk, w, r0, plD p, ho, by omega, by omega, pls_gd (by omega) ps r0, rfl, rfl⟩, ?_⟩
  rw [pok r0 (by omega)]
  k_extra "go"
  rw [decide_eq_true rfl]
end
section
set_option autoImplicit false
/-! ### the law's call, from its contract -/
section
variable {P : Program} {w : World} {K : PySem.W.Frag} {mg mb : Str → Option Value} {k : Nat} {fa a : Addr} {st : Shared} {us : List Value} {ns : List Int} {H : Hp}
/-- what may be tracked: the script alone -/
structure Trk (K : PySem.W.Frag) (P : Program) (w : World) (st : Shared) (us : List Value) (a : Addr) (ns : List Int) (H : Hp) : Prop where
  only : Only H
  scr : SqL K H a (ns.map V.int)
  hok : L2.HOk P w H st.heap
  at_ : ∀ b, H b ≠ none → b = a
  nok : H a ≠ none → K.lookup a = none
theorem Trk.env (t : Trk K P w st us a ns H) (kin : K.In st.heap) (gl : st.heap.Ns mainGlobals mg) (bl : st.heap.Ns builtinsNs mb) (bb : ∀ x : Str, x ≠ "__name__" → mb x = bootBuiltins x) (nl : st.heap.NoLimit) (gn : st.gens = #[])
    (ha : st.heap.get? a = some { cls := .type "list", data := .seq us.toArray }) : K.In (hidT st.heap H) ∧ (hidT st.heap H).Ns mainGlobals mg ∧ Env0 P w K mg (hidT st.heap H) callerA [] st H := by
  have free : ∀ {b : Addr} {o : Obj} {es : Array DictEntry} {ep : Nat}, st.heap.get? b = some o → o.data = .dict es ep → H b = none := by
    intro b o es ep e d
    cases q : H b with
    | none => rfl
    | some z =>
      have eb := t.at_ b (by rw [q]; simp)
      rw [eb, ha] at e
      cases e
      cases (show Data.seq us.toArray _ = Data.dict es ep from d)
  have ns2 : ∀ {b : Addr} {m : Str → Option Value}, st.heap.Ns b m → (hidT st.heap H).Ns b m := by
    intro b m h
    obtain ⟨o, es, ep, e, d, r⟩ := h
    exact ⟨o, es, ep, hidT_get e (free e d), d, r⟩
  have kin2 : K.In (hidT st.heap H) := by
    intro b o e
    refine hidT_get (kin b o e) ?_
    cases q : H b with
    | none => rfl
    | some z =>
      have eb := t.at_ b (by rw [q]; simp)
      rw [eb] at e q
      rw [t.nok (by rw [q]; simp)] at e
      cases e
  obtain ⟨mc, l1, l2⟩ := nl
  have md : Mod K mg (hidT st.heap H) := ⟨kin2, ns2 gl, ⟨mb, ns2 bl, bb⟩, mc, ns2 l1, l2⟩
  exact ⟨kin2, ns2 gl, rfl, md, fun _ _ e => of_hidT e, by rw [hidT_size]; exact Nat.le_refl _, trivial, fun b hb => absurd (show b ∈ ([] : List Addr) from hb) List.not_mem_nil, t.hok, .of_eq gn⟩
theorem Trk.call (t : Trk K P w st us a ns H) (kin : K.In st.heap) (gl : st.heap.Ns mainGlobals mg) (bl : st.heap.Ns builtinsNs mb) (bb : ∀ x : Str, x ≠ "__name__" → mb x = bootBuiltins x) (nl : st.heap.NoLimit) (gn : st.gens = #[])
    (ha : st.heap.get? a = some { cls := .type "list", data := .seq us.toArray }) (hr : Room k callerA) (hfa : mg "law" = some (.ref fa)) (law : ∀ base : Heap, K.In base → base.Ns mainGlobals mg → CallOk ⟨P, w, K, mg, base⟩ k "law" (PureC 1 rLaw)) :
    codeAny (model P w) callerA (.call (.ref fa) ⟨[.ref a], []⟩) (fun r s2 => r = .ok (.ret (.bool true)) ∧ OldK st.heap s2.heap ∧ s2.os = st.os ∧ AllBare s2.gens) st := by
  obtain ⟨kin2, gl2, e0⟩ := t.env kin gl bl bb nl gn ha
  obtain ⟨f, fd, ps, c1, c2, c3, c4, c5⟩ := (law _ kin2 gl2).ex
  have c1' : mg "law" = some (.ref f) := c1
  rw [hfa] at c1'
  cases c1'
  have da : DaAll K (mask [] H) [V.ref a] [scrD ns] := .cons (.scr ns (by rw [mask_nil]; exact t.scr) rfl) .nil
  have sm : Sm K [] H [] [Slot.imm (scrD ns)] [some (V.ref a)] := sm_imms (ds := [scrD ns]) (fun _ z => (by cases z)) da
  have hR : PureC 1 rLaw [Slot.imm (scrD ns)] (.bool true) [Slot.imm (scrD ns)] := ⟨[scrD ns], rfl, rfl, rfl, ns, rfl, rfl⟩
  have hps : ps.length = 1 := (c5 _ _ _ hR).symm
  have bt : BindsTo st fd ⟨[.ref a], []⟩ (ps.zip [.ref a]) := by
    have z := c3 st [.ref a] kin (by rw [List.append_nil]; exact hps.symm)
    rwa [List.append_nil] at z
  refine codeAny_mono (c4.run callerA [] st H ⟨[.ref a], []⟩ [.ref a] [.ref a] (fun v _ => v = .bl true) _ _ _ [] [] hr rfl e0 bt (.cons rfl .nil) hR sm fun v H2 dv _ => (by cases dv; rfl)) fun r s2 hq => ?_
  cases r with
  | error e => exact False.elim hq
  | ok fl =>
    cases fl with
    | next => exact False.elim hq
    | brk => exact False.elim hq
    | cont => exact False.elim hq
    | ret u =>
      obtain ⟨v, H2, os, bare, un, hok2, rv, q⟩ := hq
      have q' : v = .bl true := q
      rw [q'] at rv
      have ru : u = Value.bool true := rv
      rw [ru]
      refine ⟨rfl, OldK.of_keep fun b o e => ?_, os, bare⟩
      cases z : H b with
      | none => exact un.keep b o e z (by intro y; exact absurd (show b ∈ ([] : List Addr) from y) List.not_mem_nil) List.not_mem_nil
      | some y =>
        rcases t.only b with n | ⟨ob, xs, n⟩
        · rw [z] at n; cases n
        · obtain ⟨e1, _⟩ := t.hok b _ n
          obtain ⟨e2, _⟩ := hok2 b _ (un.frzs b ob _ n)
          rw [e] at e1
          cases e1
          exact e2
theorem end_call (kin : K.In st.heap) (gl : st.heap.Ns mainGlobals mg) (bl : st.heap.Ns builtinsNs mb) (bb : ∀ x : Str, x ≠ "__name__" → mb x = bootBuiltins x) (nl : st.heap.NoLimit) (gn : st.gens = #[])
    (ha : st.heap.get? a = some { cls := .type "list", data := .seq us.toArray }) (hi : IntsAre us ns) (hl : ns.length ≤ sizeLine) (hr : Room k callerA) (hfa : mg "law" = some (.ref fa)) (law : ∀ base : Heap, K.In base → base.Ns mainGlobals mg → CallOk ⟨P, w, K, mg, base⟩ k "law" (PureC 1 rLaw)) :
    codeAny (model P w) callerA (.call (.ref fa) ⟨[.ref a], []⟩) (fun r s2 => r = .ok (.ret (.bool true)) ∧ OldK st.heap s2.heap ∧ s2.os = st.os ∧ AllBare s2.gens) st := by
  have rv := vals_ints hi
  have ul := hi.length
  cases hk : K.lookup a with
  | some o =>
    have e := kin a o hk
    rw [ha] at e
    cases e
    have t : Trk K P w st us a ns (fun _ => none) := ⟨fun _ => .inl rfl, .inr ⟨_, us.toArray, _, hk, rfl, rfl, rfl, by rw [List.size_toArray, ul]; exact hl, by simpa using rv⟩, fun b u z => (by cases (show (none : Option HO) = some u from z)), fun b z => absurd rfl z, fun z => absurd rfl z⟩
    exact t.call kin gl bl bb nl gn ha hr hfa law
  | none =>
    have t : Trk K P w st us a ns (fun b => if b = a then some (.frz { cls := .type "list", data := .seq us.toArray } (.lst (ns.map V.int))) else none) := by
      refine ⟨fun b => ?_, .inl (.inr ⟨{ cls := .type "list", data := .seq us.toArray }, if_pos rfl⟩), fun b u z => ?_, fun b z => ?_, fun _ => hk⟩
      · by_cases c : b = a
        · exact .inr ⟨_, _, if_pos c⟩
        · exact .inl (if_neg c)
      · by_cases c : b = a
        · have z2 := (if_pos c).symm.trans z
          cases z2
          subst c
          exact ⟨ha, by rw [List.length_map]; exact hl, us, _, rv, ha⟩
        · cases (if_neg c).symm.trans z
      · by_cases c : b = a
        · exact c
        · exact absurd (if_neg c) z
    exact t.call kin gl bl bb nl gn ha hr hfa law
end
end
section
set_option autoImplicit false
section
variable {P : Program} {w : World} {K : PySem.W.Frag} {h : Heap} {mg : Str → Option Value}
theorem mkFd (X : K.In h) (G : h.Ns mainGlobals mg) (c : He.SaysD fa fn K) (base : Heap) {x : Str} {i j : Nat} {ps : List Str} (hd : fn[j]? = some ⟨(x, none), x, x, defArgs (top i), defBody (top i), defScope (top i), [], []⟩) (hf : fa[j]? = some (.glo x))
    (hb : ∀ (kV doc pm : Value) (an : Option Addr) (cdv ct : Value) (us : List Value), us.length = ps.length → bindArgs (PySem.W.fnOf x x (defArgs (top i)) (defBody (top i)) (defScope (top i)) .none kV doc pm an cdv ct) ⟨us, []⟩ = pure (ps.zip us)) : Fd ⟨P, w, K, mg, base⟩ x i ps := by
  obtain ⟨fd, FF⟩ := c.def_ j hd
  exact ⟨_, fd, FF, He.glo_ok X G (c.fact j hf), FF.bindsN hb⟩
theorem mkWb (X : K.In h) (G : h.Ns mainGlobals mg) (c : He.SaysD fa fn K) (base : Heap) : Wb ⟨P, w, K, mg, base⟩ := by
  refine ⟨fun x hx => ?_, ?_⟩
  · show mg x = none
    have hm : x ∈ bnames := by simpa using hx
    unfold bnames at hm
    simp only [List.mem_cons, List.not_mem_nil, or_false] at hm
    rcases hm with rfl | rfl | rfl | rfl | rfl | rfl | rfl | rfl | rfl | rfl | rfl | rfl | rfl
    · exact He.free_ok X G (c.fact 38 (f := .free "range") rfl)
    · exact He.free_ok X G (c.fact 37 (f := .free "len") rfl)
    · exact He.free_ok X G (c.fact 39 (f := .free "tuple") rfl)
    · exact He.free_ok X G (c.fact 40 (f := .free "sorted") rfl)
    · exact He.free_ok X G (c.fact 41 (f := .free "list") rfl)
    · exact He.free_ok X G (c.fact 46 (f := .free "int") rfl)
    · exact He.free_ok X G (c.fact 44 (f := .free "max") rfl)
    · exact He.free_ok X G (c.fact 43 (f := .free "min") rfl)
    · exact He.free_ok X G (c.fact 45 (f := .free "isinstance") rfl)
    · exact He.free_ok X G (c.fact 42 (f := .free "set") rfl)
    · exact He.free_ok X G (c.fact 48 (f := .free "repr") rfl)
    · exact He.free_ok X G (c.fact 49 (f := .free "zip") rfl)
    · exact He.free_ok X G (c.fact 47 (f := .free "bool") rfl)
  · obtain ⟨t, e⟩ := He.int_ok X G (c.fact 50 (f := .int "MOST_CLASSES" 10) rfl)
    exact ⟨_, e, t, rfl⟩
end
theorem law_chain {P : Program} {w : World} {K : PySem.W.Frag} {h : Heap} {mg : Str → Option Value} (X : K.In h) (G : h.Ns mainGlobals mg) (c : He.SaysD fa fn K) (base : Heap) : CallOk ⟨P, w, K, mg, base⟩ 20 "law" (PureC 1 rLaw) := by
  have W : Wb ⟨P, w, K, mg, base⟩ := mkWb X G c base
  have F_ancestors : Fd ⟨P, w, K, mg, base⟩ "ancestors" 4 ["history", "m"] := mkFd X G c base (j := 0) rfl rfl (fun _ _ _ _ _ _ us hl => match us, hl with | [_, _], _ => rfl)
  have F_testable : Fd ⟨P, w, K, mg, base⟩ "testable" 6 ["history", "skipped"] := mkFd X G c base (j := 1) rfl rfl (fun _ _ _ _ _ _ us hl => match us, hl with | [_, _], _ => rfl)
  have F_classes : Fd ⟨P, w, K, mg, base⟩ "classes" 7 ["history", "skipped"] := mkFd X G c base (j := 2) rfl rfl (fun _ _ _ _ _ _ us hl => match us, hl with | [_, _], _ => rfl)
  have F_broken_by : Fd ⟨P, w, K, mg, base⟩ "broken_by" 8 ["history", "found", "m"] := mkFd X G c base (j := 3) rfl rfl (fun _ _ _ _ _ _ us hl => match us, hl with | [_, _, _], _ => rfl)
  have F_tests : Fd ⟨P, w, K, mg, base⟩ "tests" 9 ["history", "skipped"] := mkFd X G c base (j := 4) rfl rfl (fun _ _ _ _ _ _ us hl => match us, hl with | [_, _], _ => rfl)
  have F_patterns : Fd ⟨P, w, K, mg, base⟩ "patterns" 12 ["history", "left", "makes"] := mkFd X G c base (j := 5) rfl rfl (fun _ _ _ _ _ _ us hl => match us, hl with | [_, _, _], _ => rfl)
  have F_choices_of : Fd ⟨P, w, K, mg, base⟩ "choices_of" 13 ["things", "many"] := mkFd X G c base (j := 6) rfl rfl (fun _ _ _ _ _ _ us hl => match us, hl with | [_, _], _ => rfl)
  have F_heads_of : Fd ⟨P, w, K, mg, base⟩ "heads_of" 14 ["history", "skipped"] := mkFd X G c base (j := 7) rfl rfl (fun _ _ _ _ _ _ us hl => match us, hl with | [_, _], _ => rfl)
  have F_useful_makes : Fd ⟨P, w, K, mg, base⟩ "useful_makes" 15 ["history", "skipped", "left"] := mkFd X G c base (j := 8) rfl rfl (fun _ _ _ _ _ _ us hl => match us, hl with | [_, _, _], _ => rfl)
  have F_rounds_that_do : Fd ⟨P, w, K, mg, base⟩ "rounds_that_do" 16 ["history", "skipped", "left", "w", "seen"] := mkFd X G c base (j := 9) rfl rfl (fun _ _ _ _ _ _ us hl => match us, hl with | [_, _, _, _, _], _ => rfl)
  have F_class_of : Fd ⟨P, w, K, mg, base⟩ "class_of" 18 ["rows", "candidate"] := mkFd X G c base (j := 10) rfl rfl (fun _ _ _ _ _ _ us hl => match us, hl with | [_, _], _ => rfl)
  have F_plan_for : Fd ⟨P, w, K, mg, base⟩ "plan_for" 19 ["history", "skipped", "left", "w", "seen"] := mkFd X G c base (j := 11) rfl rfl (fun _ _ _ _ _ _ us hl => match us, hl with | [_, _, _, _, _], _ => rfl)
  have F_round_plan : Fd ⟨P, w, K, mg, base⟩ "round_plan" 20 ["history", "skipped", "w"] := mkFd X G c base (j := 12) rfl rfl (fun _ _ _ _ _ _ us hl => match us, hl with | [_, _, _], _ => rfl)
  have F_rounds_of : Fd ⟨P, w, K, mg, base⟩ "rounds_of" 21 ["plan"] := mkFd X G c base (j := 13) rfl rfl (fun _ _ _ _ _ _ us hl => match us, hl with | [_], _ => rfl)
  have F_is_integer : Fd ⟨P, w, K, mg, base⟩ "is_integer" 22 ["thing"] := mkFd X G c base (j := 14) rfl rfl (fun _ _ _ _ _ _ us hl => match us, hl with | [_], _ => rfl)
  have F_are_makes : Fd ⟨P, w, K, mg, base⟩ "are_makes" 23 ["thing", "history", "skipped", "w"] := mkFd X G c base (j := 15) rfl rfl (fun _ _ _ _ _ _ us hl => match us, hl with | [_, _, _, _], _ => rfl)
  have F_is_plain_row : Fd ⟨P, w, K, mg, base⟩ "is_plain_row" 24 ["row", "pattern"] := mkFd X G c base (j := 16) rfl rfl (fun _ _ _ _ _ _ us hl => match us, hl with | [_, _], _ => rfl)
  have F_holds : Fd ⟨P, w, K, mg, base⟩ "holds" 25 ["history", "skipped", "left", "w", "r", "plan"] := mkFd X G c base (j := 17) rfl rfl (fun _ _ _ _ _ _ us hl => match us, hl with | [_, _, _, _, _, _], _ => rfl)
  have F_judge_rounds : Fd ⟨P, w, K, mg, base⟩ "judge_rounds" 26 ["history", "skipped", "w", "r", "plan"] := mkFd X G c base (j := 18) rfl rfl (fun _ _ _ _ _ _ us hl => match us, hl with | [_, _, _, _, _], _ => rfl)
  have F__law_cell : Fd ⟨P, w, K, mg, base⟩ "_law_cell" 28 ["_law_script", "_law_k"] := mkFd X G c base (j := 19) rfl rfl (fun _ _ _ _ _ _ us hl => match us, hl with | [_, _], _ => rfl)
  have F__law_digits : Fd ⟨P, w, K, mg, base⟩ "_law_digits" 29 ["_law_script", "_law_first", "_law_last"] := mkFd X G c base (j := 20) rfl rfl (fun _ _ _ _ _ _ us hl => match us, hl with | [_, _, _], _ => rfl)
  have F__law_draw : Fd ⟨P, w, K, mg, base⟩ "_law_draw" 30 ["_law_box", "_law_many"] := mkFd X G c base (j := 21) rfl rfl (fun _ _ _ _ _ _ us hl => match us, hl with | [_, _], _ => rfl)
  have F__law_pick : Fd ⟨P, w, K, mg, base⟩ "_law_pick" 31 ["_law_box", "_law_things"] := mkFd X G c base (j := 22) rfl rfl (fun _ _ _ _ _ _ us hl => match us, hl with | [_, _], _ => rfl)
  have F__law_parents : Fd ⟨P, w, K, mg, base⟩ "_law_parents" 32 ["_law_box", "_law_k", "_law_ends"] := mkFd X G c base (j := 23) rfl rfl (fun _ _ _ _ _ _ us hl => match us, hl with | [_, _, _], _ => rfl)
  have F__law_history : Fd ⟨P, w, K, mg, base⟩ "_law_history" 33 ["_law_box", "_law_most"] := mkFd X G c base (j := 24) rfl rfl (fun _ _ _ _ _ _ us hl => match us, hl with | [_, _], _ => rfl)
  have F__law_above : Fd ⟨P, w, K, mg, base⟩ "_law_above" 34 ["_law_history_here", "_law_make"] := mkFd X G c base (j := 25) rfl rfl (fun _ _ _ _ _ _ us hl => match us, hl with | [_, _], _ => rfl)
  have F__law_breaks : Fd ⟨P, w, K, mg, base⟩ "_law_breaks" 35 ["_law_history_here", "_law_candidate", "_law_make"] := mkFd X G c base (j := 26) rfl rfl (fun _ _ _ _ _ _ us hl => match us, hl with | [_, _, _], _ => rfl)
  have F__law_skips : Fd ⟨P, w, K, mg, base⟩ "_law_skips" 36 ["_law_box", "_law_history_here"] := mkFd X G c base (j := 27) rfl rfl (fun _ _ _ _ _ _ us hl => match us, hl with | [_, _], _ => rfl)
  have F__law_classes : Fd ⟨P, w, K, mg, base⟩ "_law_classes" 37 ["_law_history_here", "_law_skipped"] := mkFd X G c base (j := 28) rfl rfl (fun _ _ _ _ _ _ us hl => match us, hl with | [_, _], _ => rfl)
  have F__law_is_int : Fd ⟨P, w, K, mg, base⟩ "_law_is_int" 38 ["_law_thing"] := mkFd X G c base (j := 29) rfl rfl (fun _ _ _ _ _ _ us hl => match us, hl with | [_], _ => rfl)
  have F__law_holds : Fd ⟨P, w, K, mg, base⟩ "_law_holds" 39 ["_law_history_here", "_law_skipped", "_law_left", "_law_w", "_law_r", "_law_plan"] := mkFd X G c base (j := 30) rfl rfl (fun _ _ _ _ _ _ us hl => match us, hl with | [_, _, _, _, _, _], _ => rfl)
  have F__law_spoilt_rows : Fd ⟨P, w, K, mg, base⟩ "_law_spoilt_rows" 40 ["_law_box", "_law_rows"] := mkFd X G c base (j := 31) rfl rfl (fun _ _ _ _ _ _ us hl => match us, hl with | [_, _], _ => rfl)
  have F__law_spoilt : Fd ⟨P, w, K, mg, base⟩ "_law_spoilt" 41 ["_law_box", "_law_plan"] := mkFd X G c base (j := 32) rfl rfl (fun _ _ _ _ _ _ us hl => match us, hl with | [_, _], _ => rfl)
  have F__law_agrees : Fd ⟨P, w, K, mg, base⟩ "_law_agrees" 42 ["_law_history_here", "_law_skipped", "_law_w", "_law_r", "_law_plan"] := mkFd X G c base (j := 33) rfl rfl (fun _ _ _ _ _ _ us hl => match us, hl with | [_, _, _, _, _], _ => rfl)
  have F__law_round_makes : Fd ⟨P, w, K, mg, base⟩ "_law_round_makes" 43 ["_law_box", "_law_history_here", "_law_skipped", "_law_w"] := mkFd X G c base (j := 34) rfl rfl (fun _ _ _ _ _ _ us hl => match us, hl with | [_, _, _, _], _ => rfl)
  have F__law_built : Fd ⟨P, w, K, mg, base⟩ "_law_built" 44 ["_law_box", "_law_history_here", "_law_skipped", "_law_left", "_law_w", "_law_deep"] := mkFd X G c base (j := 35) rfl rfl (fun _ _ _ _ _ _ us hl => match us, hl with | [_, _, _, _, _, _], _ => rfl)
  have F_law : Fd ⟨P, w, K, mg, base⟩ "law" 45 ["_law_script"] := mkFd X G c base (j := 36) rfl rfl (fun _ _ _ _ _ _ us hl => match us, hl with | [_], _ => rfl)
  have C_ancestors := w_ancestors (k := 0) W   F_ancestors
  have C_testable := w_testable (k := 0) W   F_testable
  have C_classes := w_classes (k := 1) W C_ancestors C_testable (by omega) (by omega) F_classes
  have C_broken_by := w_broken_by (k := 1) W C_ancestors (by omega) F_broken_by
  have C_tests := w_tests (k := 2) W C_classes C_testable C_broken_by (by omega) (by omega) (by omega) F_tests
  have C_choices_of : ∀ K2, K2 ≤ 3 → CallOk ⟨P, w, K, mg, base⟩ 4 "choices_of" (PureC 2 (rCho K2)) := fun K2 hK => (w_choices (k := 0) W F_choices_of K2 hK).mono (by omega)
  have C_heads_of := w_heads (k := 2) W C_classes (by omega) F_heads_of
  have C_useful_makes := w_useful (k := 3) W C_ancestors C_tests (by omega) (by omega) F_useful_makes
  have C_class_of := w_class_of (k := 0) W   F_class_of
  have C_is_integer := w_is_integer (k := 0) W   F_is_integer
  have C_are_makes := w_are_makes (k := 1) W C_is_integer (by omega) F_are_makes
  have C_is_plain_row := w_plain (k := 0) W   F_is_plain_row
  have C_patterns := w_patterns (k := 1) W C_ancestors (by omega) F_patterns
  have C_rounds_that_do := w_rtd (j4 := 0) (k := 4) W C_useful_makes C_choices_of C_patterns (by omega) (by omega) (by omega) F_rounds_that_do 6
  have C_plan_for := w_plan_for (k := 11) W C_class_of C_classes C_patterns C_rounds_that_do (by omega) (by omega) (by omega) (by omega) F_plan_for 6
  have C_round_plan := w_round_plan (k := 18) W C_heads_of C_plan_for (by omega) (by omega) F_round_plan
  have C_rounds_of := w_rounds_of (k := 0) W   F_rounds_of 6
  have C_holds := w_holds (k := 2) W C_is_integer C_classes C_are_makes C_patterns C_is_plain_row (by omega) (by omega) (by omega) (by omega) (by omega) F_holds 8
  have C_judge_rounds := w_judge (k := 11) W C_holds (by omega) F_judge_rounds
  have C__law_cell := w_cell (k := 0) W   F__law_cell
  have C__law_digits := w_digits (k := 1) W C__law_cell (by omega) F__law_digits
  have C__law_draw := w_draw (k := 0) W   F__law_draw
  have C__law_pick := w_pick (k := 1) W C__law_draw (by omega) F__law_pick
  have C__law_parents := w_parents (k := 1) W C__law_draw (by omega) F__law_parents
  have C__law_history := w_history (k := 2) W C__law_draw C__law_parents (by omega) (by omega) F__law_history
  have C__law_above := w_above (k := 0) W   F__law_above
  have C__law_breaks := w_breaks (k := 1) W C__law_above (by omega) F__law_breaks
  have C__law_skips := w_skips (k := 1) W C__law_draw (by omega) F__law_skips
  have C__law_classes := w_lclasses (k := 2) W C__law_breaks (by omega) F__law_classes
  have C__law_is_int := w_law_is_int (k := 0) W   F__law_is_int
  have C__law_holds := w_lholds (k := 3) W C__law_is_int C__law_classes C__law_breaks (by omega) (by omega) (by omega) F__law_holds 8
  have C__law_agrees := w_agrees (k := 12) W C_judge_rounds C__law_holds (by omega) (by omega) F__law_agrees
  have C__law_round_makes := w_round_makes (k := 2) W C__law_draw C__law_pick (by omega) (by omega) F__law_round_makes
  have C__law_built := w_built (k := 3) W C__law_round_makes C__law_breaks C__law_pick C__law_draw C__law_classes (by omega) (by omega) (by omega) (by omega) (by omega) F__law_built 5
  have C_sp : ∀ n, n ≤ 15 → CallOk ⟨P, w, K, mg, base⟩ (3 + 2 * n) "_law_spoilt" (BoxC 1 (rSp n)) := by
    intro n
    induction n with
    | zero => intro hn; exact w_spoilt (k := 2) W hn C__law_draw C__law_pick (by omega) (by omega) (fun m e => by omega) F__law_spoilt
    | succ n ih =>
      intro hn
      have r := w_spoilt_rows (k := 3 + 2 * n) W (by omega) C__law_draw (by omega) (ih (by omega)) F__law_spoilt_rows
      refine w_spoilt (k := 3 + 2 * n + 1) W hn C__law_draw C__law_pick (by omega) (by omega) (fun m e => ?_) F__law_spoilt
      have em : m = n := by omega
      subst em
      exact r
  exact w_law (k := 19) W C__law_digits C__law_history C__law_skips C__law_draw C_round_plan C_rounds_of (C_sp 6 (by omega)) C__law_agrees C__law_built C_judge_rounds (by omega) (by omega) (by omega) (by omega) (by omega) (by omega) (by omega) (by omega) (by omega) (by omega) F_law
end
end Fb
open PySem PySem.W PySem.Calls PyProof.Rows
theorem PySem.Challenge.cw_firstbreak_k30_spoilt_plans_holds : PySem.Challenge.rw_firstbreak_k30_spoilt_plans.Holds := by
  w_on; o_law
  refine HandSHeadRun.head_any (r := Fb.R) (q := view Fb.R.prog [45]) (H := Fb.hk) (ob := Fb.ob) (M := 2000) (loose := Fb.loose) (d := HandSHeadRun.topDef Fb.R.prog 45) (kwd := []) Fb.ob_eq (by kernel_rfl) (fun s => by kernel_rfl) Fb.run
    (by kernel_rfl) (by kernel_rfl) (by kernel_rfl) (by rfl) (by first | assumption | decide +kernel) (by decide +kernel) ⟨rfl, rfl, rfl, rfl, rfl, by decide +kernel⟩ ?hw ?hc
  case hw => w_witness2
  case hc =>
    refine Att.attach_call (l := PySem.Challenge.rw_firstbreak_k30_spoilt_plans) (n := 63) rfl (by kernel_rfl) fun w s₀ st mg mb fa o pm cd doc a vs ns G Y ho hd hcd hmg0 hobj hints hlen hg => ?_
    obtain ⟨K, KX, c⟩ := Y
    have hmg : mg ("law" : PySem.Str) = some (.ref fa) := by
      have e : (HandSHeadRun.topDef Fb.R.prog 45).name = ("law" : PySem.Str) := by kernel_rfl
      exact (congrArg mg e).symm.trans hmg0
    exact Fb.end_call KX G.T.g G.T.b G.T.builtins G.T.nolimit hg hobj hints (Nat.le_trans hlen (by decide)) ⟨rfl, by decide, by decide⟩ hmg fun base _ _ => Fb.law_chain KX G.T.g c base
