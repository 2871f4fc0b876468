import PyProof.Rows.All
import Wide.All
import OpenK.AllK
import Wide.FinOn
import HandS.ForMost
import HandS.IsInst
import HandS.Wide
import HandS.Flow
import HandS.More
import HandS.Deep
import HandS.TupAny
import HandS.TupMul
import HandS.Conv
import PySem.Challenge.RW_whicheverend_k86_whole_texts_of_terms
set_option Elab.async false
set_option linter.all false
set_option maxRecDepth 100000
set_option maxHeartbeats 2000000
/-! DLay: readings by DATA. G: the part of the heap that never changes any more (data that were made); W: what is owned and may change. -/
namespace DL
open PySem PySem.Spec PyProof.Rows L2

/-! ### ownership -/
structure Own where
  us : Addr → Prop
  J : Hp → Hp → Prop
  loc : ∀ {G G' H H' : Hp}, Same G G' → (∀ a, us a → H a = H' a) → J G H → J G' H'
structure Own.Ok (W : Own) (G H : Hp) : Prop where
  ex : Same G H
  own : ∀ a, W.us a → G a = none ∧ ∃ o, H a = some o
  j : W.J G H
def own0 : Own := ⟨fun _ => False, fun _ _ => True, fun _ _ _ => trivial⟩
theorem own0_ok (H : Hp) : own0.Ok H H := ⟨Same.refl H, fun _ h => h.elim, trivial⟩
theorem same_new {H : Hp} {p : Addr} {o : HO} (h : H p = none) : Same H (upd H p o) := fun b x e => by
  rw [upd_ne (ne_of_none e h)]
  exact e
theorem Own.Ok.fresh {W : Own} {G H : Hp} {p : Addr} {o : HO} (w : W.Ok G H) (h : H p = none) : W.Ok (upd G p o) (upd H p o) := by
  have hG : G p = none := w.ex.free h
  refine ⟨fun a u e => ?_, fun a ha => ?_, ?_⟩
  · by_cases hp : a = p
    · subst hp
      rw [upd_same] at e ⊢
      exact e
    · rw [upd_ne hp] at e ⊢
      exact w.ex a u e
  · obtain ⟨g, u, e⟩ := w.own a ha
    have hp : a ≠ p := ne_of_none e h
    exact ⟨by rw [upd_ne hp]; exact g, u, by rw [upd_ne hp]; exact e⟩
  · refine W.loc (same_new hG) (fun a ha => ?_) w.j
    obtain ⟨g, u, e⟩ := w.own a ha
    rw [upd_ne (ne_of_none e h)]
/-- a new object that is not data yet -/
theorem Own.Ok.side {W : Own} {G H : Hp} {p : Addr} {o : HO} (w : W.Ok G H) (hG : G p = none) (hW : ¬ W.us p) : W.Ok G (upd H p o) := by
  refine ⟨fun a u e => ?_, fun a ha => ?_, ?_⟩
  · rw [upd_ne (ne_of_none e hG)]
    exact w.ex a u e
  · obtain ⟨g, u, e⟩ := w.own a ha
    have hp : a ≠ p := fun z => hW (z ▸ ha)
    exact ⟨g, u, by rw [upd_ne hp]; exact e⟩
  · refine W.loc (Same.refl G) (fun a ha => ?_) w.j
    have hp : a ≠ p := fun z => hW (z ▸ ha)
    rw [upd_ne hp]
theorem Own.Ok.nown {W : Own} {G H : Hp} {p : Addr} (w : W.Ok G H) (h : H p = none) : ¬ W.us p := fun z => by
  obtain ⟨_, u, e⟩ := w.own p z
  rw [h] at e
  cases e

/-! ### data -/
theorem seqT {K : PySem.W.Frag} {H H' : Hp} {a : Addr} {xs : List V} (e : Same H H') (h : SqT K H a xs) : SqT K H' a xs := by
  rcases h with (h | ⟨o, h⟩) | h
  · exact .inl (.inl (e _ _ h))
  · exact .inl (.inr ⟨o, e _ _ h⟩)
  · exact .inr h
mutual
theorem dp_mono {K : PySem.W.Frag} {H H' : Hp} (e : Same H H') : ∀ (d : PyData) (v : V), Dp K H v d → Dp K H' v d
  | .none, _, h => by cases h; exact .non
  | .bool b, _, h => by cases h; exact .bl b
  | .int i, _, h => by cases h; exact .int i
  | .str x, _, h => by cases h; exact .str x
  | .list ds, _, h => by
    cases h with
    | lst hs ha => exact .lst (e.seq hs) (dpA_mono e ds _ ha)
  | .tuple ds, _, h => by
    cases h with
    | tup hs ha => exact .tup (seqT e hs) (dpA_mono e ds _ ha)
  | .dict _, _, h => by cases h
theorem dpA_mono {K : PySem.W.Frag} {H H' : Hp} (e : Same H H') : ∀ (ds : List PyData) (vs : List V), DpAll K H vs ds → DpAll K H' vs ds
  | [], _, h => by cases h; exact .nil
  | d :: ds, _, h => by
    cases h with
    | cons h1 h2 => exact .cons (dp_mono e d _ h1) (dpA_mono e ds _ h2)
end
theorem dpA_len {K : PySem.W.Frag} {H : Hp} : ∀ (ds : List PyData) (vs : List V), DpAll K H vs ds → vs.length = ds.length
  | [], _, h => by cases h; rfl
  | d :: ds, _, h => by
    cases h with
    | cons h1 h2 => rw [List.length_cons, List.length_cons, dpA_len ds _ h2]
theorem dpA_get {K : PySem.W.Frag} {H : Hp} : ∀ (ds : List PyData) (vs : List V), DpAll K H vs ds → ∀ (i : Nat) (d : PyData), ds[i]? = some d → ∃ v, vs[i]? = some v ∧ Dp K H v d
  | [], _, _, _, _, e => by simp at e
  | d :: ds, _, h, 0, _, e => by
    cases h with
    | cons h1 h2 =>
      have e' : d = _ := Option.some.inj e
      subst e'
      exact ⟨_, rfl, h1⟩
  | d :: ds, _, h, i + 1, x, e => by
    cases h with
    | cons h1 h2 => exact dpA_get ds _ h2 i x e
theorem dpA_get' {K : PySem.W.Frag} {H : Hp} : ∀ (ds : List PyData) (vs : List V), DpAll K H vs ds → ∀ (i : Nat) (v : V), vs[i]? = some v → ∃ d, ds[i]? = some d ∧ Dp K H v d
  | [], _, h, i, v, e => by cases h; simp at e
  | d :: ds, _, h, 0, _, e => by
    cases h with
    | cons h1 h2 =>
      have e' := Option.some.inj e
      subst e'
      exact ⟨_, rfl, h1⟩
  | d :: ds, _, h, i + 1, x, e => by
    cases h with
    | cons h1 h2 => exact dpA_get' ds _ h2 i x e
theorem dpA_app {K : PySem.W.Frag} {H : Hp} : ∀ (ds es : List PyData) (vs us : List V), DpAll K H vs ds → DpAll K H us es → DpAll K H (vs ++ us) (ds ++ es)
  | [], _, _, _, h, h' => by cases h; exact h'
  | d :: ds, es, _, us, h, h' => by
    cases h with
    | cons h1 h2 => exact .cons h1 (dpA_app ds es _ us h2 h')
theorem dpA_take {K : PySem.W.Frag} {H : Hp} : ∀ (n : Nat) (ds : List PyData) (vs : List V), DpAll K H vs ds → DpAll K H (vs.take n) (ds.take n)
  | 0, _, _, _ => .nil
  | _ + 1, [], _, h => by cases h; exact .nil
  | n + 1, d :: ds, _, h => by
    cases h with
    | cons h1 h2 => exact .cons h1 (dpA_take n ds _ h2)
theorem dpA_drop {K : PySem.W.Frag} {H : Hp} : ∀ (n : Nat) (ds : List PyData) (vs : List V), DpAll K H vs ds → DpAll K H (vs.drop n) (ds.drop n)
  | 0, _, _, h => h
  | _ + 1, [], _, h => by cases h; exact .nil
  | n + 1, d :: ds, _, h => by
    cases h with
    | cons h1 h2 => exact dpA_drop n ds _ h2
theorem dpA_ints {K : PySem.W.Frag} {H : Hp} : ∀ (ns : List Int), DpAll K H (ns.map V.int) (ns.map PyData.int)
  | [] => .nil
  | n :: ns => .cons (.int n) (dpA_ints ns)
theorem dpA_dropLast {K : PySem.W.Frag} {H : Hp} (ds : List PyData) (vs : List V) (h : DpAll K H vs ds) : DpAll K H vs.dropLast ds.dropLast := by
  rw [List.dropLast_eq_take, List.dropLast_eq_take, dpA_len ds vs h]
  exact dpA_take _ _ _ h
theorem dp_int {K : PySem.W.Frag} {H : Hp} {v : V} {i : Int} (h : Dp K H v (.int i)) : v = .int i := by cases h; rfl
theorem dp_bool {K : PySem.W.Frag} {H : Hp} {v : V} {i : Bool} (h : Dp K H v (.bool i)) : v = .bl i := by cases h; rfl
theorem dp_str {K : PySem.W.Frag} {H : Hp} {v : V} {i : Str} (h : Dp K H v (.str i)) : v = .str i := by cases h; rfl
theorem dp_none {K : PySem.W.Frag} {H : Hp} {v : V} (h : Dp K H v .none) : v = .non := by cases h; rfl
theorem dp_tup {K : PySem.W.Frag} {H : Hp} {v : V} {ds : List PyData} (h : Dp K H v (.tuple ds)) : ∃ a xs, v = .ref a ∧ SqT K H a xs ∧ DpAll K H xs ds := by
  cases h with
  | tup hs ha => exact ⟨_, _, rfl, hs, ha⟩
theorem dp_lst {K : PySem.W.Frag} {H : Hp} {v : V} {ds : List PyData} (h : Dp K H v (.list ds)) : ∃ a xs, v = .ref a ∧ SqL K H a xs ∧ DpAll K H xs ds := by
  cases h with
  | lst hs ha => exact ⟨_, _, rfl, hs, ha⟩

/-! ### slots -/
inductive Slot where
  | no
  | d (x : PyData)
  | v (x : V)
def SlOk (K : PySem.W.Frag) (G : Hp) (o : Option V) : Slot → Prop
  | .no => True
  | .d x => ∃ v, o = some v ∧ Dp K G v x
  | .v x => o = some x
def En (K : PySem.W.Frag) (G : Hp) (σ : L2.St) (Γ : List Slot) : Prop := σ.length = Γ.length ∧ ∀ (i : Nat) (s : Slot), Γ[i]? = some s → ∃ o : Option V, σ[i]? = some o ∧ SlOk K G o s
theorem slOk_mono {K : PySem.W.Frag} {G G' : Hp} {o : Option V} {s : Slot} (e : Same G G') (h : SlOk K G o s) : SlOk K G' o s := by
  cases s with
  | no => trivial
  | d x => obtain ⟨v, h1, h2⟩ := h; exact ⟨v, h1, dp_mono e _ _ h2⟩
  | v x => exact h
theorem En.mono {K : PySem.W.Frag} {G G' : Hp} {σ : L2.St} {Γ : List Slot} (e : Same G G') (h : En K G σ Γ) : En K G' σ Γ :=
  ⟨h.1, fun i s q => by obtain ⟨o, h1, h2⟩ := h.2 i s q; exact ⟨o, h1, slOk_mono e h2⟩⟩
theorem En.get {K : PySem.W.Frag} {G : Hp} {σ : L2.St} {Γ : List Slot} {i : Nat} {x : PyData} (h : En K G σ Γ) (e : Γ[i]? = some (.d x)) : ∃ v, σ[i]? = some (some v) ∧ Dp K G v x := by
  obtain ⟨o, h1, v, h2, h3⟩ := h.2 i _ e
  exact ⟨v, by rw [h1, h2], h3⟩
theorem En.getV {K : PySem.W.Frag} {G : Hp} {σ : L2.St} {Γ : List Slot} {i : Nat} {x : V} (h : En K G σ Γ) (e : Γ[i]? = some (.v x)) : σ[i]? = some (some x) := by
  obtain ⟨o, h1, h2⟩ := h.2 i _ e
  have h3 : o = some x := h2
  rw [h1, h3]
theorem En.set {K : PySem.W.Frag} {G : Hp} {σ : L2.St} {Γ : List Slot} (h : En K G σ Γ) (i : Nat) {o : Option V} {s : Slot} (hs : SlOk K G o s) : En K G (σ.set i o) (Γ.set i s) := by
  refine ⟨by rw [List.length_set, List.length_set]; exact h.1, fun j t q => ?_⟩
  by_cases e : i = j
  · subst e
    have hl : i < Γ.length := by
      have := (List.getElem?_eq_some_iff.mp q).1
      rw [List.length_set] at this
      exact this
    rw [List.getElem?_set_self hl] at q
    have e2 := Option.some.inj q
    subst e2
    exact ⟨o, List.getElem?_set_self (by rw [h.1]; exact hl), hs⟩
  · rw [List.getElem?_set_ne e] at q
    obtain ⟨u, h1, h2⟩ := h.2 j t q
    exact ⟨u, by rw [List.getElem?_set_ne e]; exact h1, h2⟩
theorem En.setD {K : PySem.W.Frag} {G : Hp} {σ : L2.St} {Γ : List Slot} (h : En K G σ Γ) (i : Nat) {v : V} {d : PyData} (hd : Dp K G v d) : En K G (σ.set i (some v)) (Γ.set i (.d d)) := h.set i ⟨v, rfl, hd⟩
/-- forgetting -/
def wipeS (Γ : List Slot) : List Nat → List Slot
  | [] => Γ
  | v :: vs => (wipeS Γ vs).set v .no
theorem En.wipe {K : PySem.W.Frag} {G : Hp} : ∀ (vs : List Nat) {σ : L2.St} {Γ : List Slot}, En K G σ Γ → En K G (wipe σ vs) (wipeS Γ vs)
  | [], _, _, h => h
  | i :: vs, σ, Γ, h => (En.wipe vs h).set i (s := .no) trivial

/-! ### the readings -/
section
variable (K : PySem.W.Frag) (W : Own)
def DE (te : TE) (Γ : List Slot) (R : PyData → Prop) : Prop :=
  ∀ (G H : Hp) (σ : L2.St) (Q : VK), W.Ok G H → En K G σ Γ → (∀ v d G' H', Same G G' → W.Ok G' H' → Dp K G' v d → R d → Q v H') → te σ H Q
def DT (tt : TT) (Γ : List Slot) (R : Bool → Prop) : Prop :=
  ∀ (G H : Hp) (σ : L2.St) (Q : Bool → Hp → Prop), W.Ok G H → En K G σ Γ → (∀ b G' H', Same G G' → W.Ok G' H' → R b → Q b H') → tt σ H Q
abbrev Args (G : Hp) : List V → List Slot → Prop := Paired fun v s => SlOk K G (some v) s
def DA (ta : TA) (Γ : List Slot) (R : List Slot → Prop) : Prop :=
  ∀ (G H : Hp) (σ : L2.St) (Q : List V → Hp → Prop), W.Ok G H → En K G σ Γ → (∀ vs ss G' H', Same G G' → W.Ok G' H' → Args K G' vs ss → R ss → Q vs H') → ta σ H Q
structure Po where
  nx : List Slot → Prop
  rt : PyData → Prop
  bk : List Slot → Prop
  ct : List Slot → Prop
def DS (ts : TS) (Γ : List Slot) (P : Po) : Prop :=
  ∀ (G H : Hp) (σ : L2.St) (D : Ends), W.Ok G H → En K G σ Γ →
    (∀ Γ' σ' G' H', Same G G' → W.Ok G' H' → En K G' σ' Γ' → P.nx Γ' → D.nx σ' H') →
    (∀ v d G' H', Same G G' → W.Ok G' H' → Dp K G' v d → P.rt d → D.rt v H') →
    (∀ Γ' σ' G' H', Same G G' → W.Ok G' H' → En K G' σ' Γ' → P.bk Γ' → D.bk σ' H') →
    (∀ Γ' σ' G' H', Same G G' → W.Ok G' H' → En K G' σ' Γ' → P.ct Γ' → D.ct σ' H') → ts D σ H
def DG (g : TG) (d : PyData) (Γ : List Slot) (R : List Slot → Prop) : Prop :=
  ∀ (G H : Hp) (σ : L2.St) (v : V) (Q : L2.St → Hp → Prop), W.Ok G H → En K G σ Γ → Dp K G v d → (∀ Γ' σ' G' H', Same G G' → W.Ok G' H' → En K G' σ' Γ' → R Γ' → Q σ' H') → g v σ H Q
/-- a promise by data -/
def spD (S : List PyData → (PyData → Prop) → Prop) : Sp := fun vs H Q _ => ∃ (W : Own) (G : Hp) (ds : List PyData) (R : PyData → Prop), W.Ok G H ∧ DpAll K G vs ds ∧ S ds R ∧
  ∀ v d G' H', Same G G' → W.Ok G' H' → Dp K G' v d → R d → Q v H'
end
theorem Args.mono {K : PySem.W.Frag} {G G' : Hp} (e : Same G G') : ∀ {vs : List V} {ss : List Slot}, Args K G vs ss → Args K G' vs ss
  | _, _, .nil => .nil
  | _, _, .cons r t => .cons (slOk_mono e r) (Args.mono e t)
/-- the data of arguments -/
def dsOf : List Slot → Option (List PyData)
  | [] => some []
  | .d x :: r => match dsOf r with | some l => some (x :: l) | none => none
  | _ :: _ => none
theorem args_ds {K : PySem.W.Frag} {G : Hp} : ∀ {ss : List Slot} {vs : List V} {ds : List PyData}, Args K G vs ss → dsOf ss = some ds → DpAll K G vs ds
  | [], _, ds, .nil, e => by cases e; exact .nil
  | .no :: _, _, _, _, e => by cases e
  | .v _ :: _, _, _, _, e => by cases e
  | .d x :: r, _, ds, .cons h t, e => by
    cases hr : dsOf r with
    | none =>
      have e' : (match dsOf r with | some l => some (x :: l) | none => none) = some ds := e
      rw [hr] at e'
      cases e'
    | some es =>
      have e' : (match dsOf r with | some l => some (x :: l) | none => none) = some ds := e
      rw [hr] at e'
      have e2 : x :: es = ds := Option.some.inj e'
      subst e2
      obtain ⟨v, e3, hd⟩ := h
      cases Option.some.inj e3
      exact .cons hd (args_ds t hr)

section
variable {K : PySem.W.Frag} {W : Own} {Γ : List Slot} {R : PyData → Prop} {ta tb tc te : TE} {t u : TT} {tr : TA}

/-! ### expressions -/
theorem de_var {i : Nat} {x : PyData} (h : Γ[i]? = some (.d x)) (q : R x) : DE K W (tVar i) Γ R := fun G H σ Q w n k => by
  obtain ⟨v, e, hd⟩ := n.get h
  exact ⟨v, e, k v x G H (Same.refl G) w hd q⟩
def cD : V → Option PyData
  | .non => some .none
  | .bl b => some (.bool b)
  | .int i => some (.int i)
  | .str x => some (.str x)
  | _ => none
theorem dp_c {G : Hp} {v : V} {d : PyData} (h : cD v = some d) : Dp K G v d := by
  cases v <;> cases h
  · exact .non
  · exact .bl _
  · exact .int _
  · exact .str _
theorem de_c {v : V} {d : PyData} (h : cD v = some d) (q : R d) : DE K W (tC v) Γ R := fun G H σ Q w n k => k v d G H (Same.refl G) w (dp_c h) q
/-- an object of the top that is data -/
theorem de_k {v : V} {d : PyData} (h : ∀ G, Dp K G v d) (q : R d) : DE K W (tC v) Γ R := fun G H σ Q w n k => k v d G H (Same.refl G) w (h G) q
/-- an operation, by data -/
def OpD (K : PySem.W.Frag) (r : R2) (F : PyData → PyData → (PyData → Prop) → Prop) : Prop :=
  ∀ (W : Own) (G H : Hp) (x y : V) (d e : PyData) (R : PyData → Prop) (Q : VK), W.Ok G H → Dp K G x d → Dp K G y e → F d e R → (∀ v z G' H', Same G G' → W.Ok G' H' → Dp K G' v z → R z → Q v H') → r x y H Q
theorem de_op {r : R2} {F : PyData → PyData → (PyData → Prop) → Prop} (hr : OpD K r F) (h : DE K W ta Γ fun d => DE K W tb Γ fun e => F d e R) : DE K W (tOp r ta tb) Γ R := fun G H σ Q w n k =>
  h G H σ _ w n fun x d G1 H1 s1 w1 hx q1 => q1 G1 H1 σ _ w1 (n.mono s1) fun y e G2 H2 s2 w2 hy q2 =>
    hr W G2 H2 x y d e R Q w2 (dp_mono s2 _ _ hx) hy q2 fun v z G3 H3 s3 w3 hz rz => k v z G3 H3 ((s1.trans s2).trans s3) w3 hz rz
/-- of ints -/
def fI (C : Int → Int → Prop) (g : Int → Int → PyData) (d e : PyData) (R : PyData → Prop) : Prop := ∃ i j, d = .int i ∧ e = .int j ∧ C i j ∧ R (g i j)
theorem od_I {C : Int → Int → Prop} {g : Int → Int → Int} : OpD K (rI C fun i j => .int (g i j)) (fI C fun i j => .int (g i j)) := fun W G H x y d e R Q w hx hy f k => by
  obtain ⟨i, j, rfl, rfl, c, r⟩ := f
  exact ⟨i, j, dp_int hx, dp_int hy, c, k _ _ G H (Same.refl G) w (.int _) r⟩
theorem od_I0 {g : Int → Int → Int} : OpD K (rI0 fun i j => .int (g i j)) (fI (fun _ _ => True) fun i j => .int (g i j)) := fun W G H x y d e R Q w hx hy f k => by
  obtain ⟨i, j, rfl, rfl, c, r⟩ := f
  exact ⟨i, j, dp_int hx, dp_int hy, k _ _ G H (Same.refl G) w (.int _) r⟩
theorem od_B0 {g : Int → Int → Bool} : OpD K (rI0 fun i j => .bl (g i j)) (fI (fun _ _ => True) fun i j => .bool (g i j)) := fun W G H x y d e R Q w hx hy f k => by
  obtain ⟨i, j, rfl, rfl, c, r⟩ := f
  exact ⟨i, j, dp_int hx, dp_int hy, k _ _ G H (Same.refl G) w (.bl _) r⟩
theorem de_I {C : Int → Int → Prop} {g : Int → Int → Int} (h : DE K W ta Γ fun d => DE K W tb Γ fun e => ∃ i j, d = .int i ∧ e = .int j ∧ C i j ∧ R (.int (g i j))) : DE K W (tOp (rI C fun i j => .int (g i j)) ta tb) Γ R := de_op od_I h
theorem de_I0 {g : Int → Int → Int} (h : DE K W ta Γ fun d => DE K W tb Γ fun e => ∃ i j, d = .int i ∧ e = .int j ∧ True ∧ R (.int (g i j))) : DE K W (tOp (rI0 fun i j => .int (g i j)) ta tb) Γ R := de_op od_I0 h
theorem de_B0 {g : Int → Int → Bool} (h : DE K W ta Γ fun d => DE K W tb Γ fun e => ∃ i j, d = .int i ∧ e = .int j ∧ True ∧ R (.bool (g i j))) : DE K W (tOp (rI0 fun i j => .bl (g i j)) ta tb) Γ R := de_op od_B0 h
/-- texts joined -/
def rAddStr : R2 := fun x y H Q => ∃ i j, x = .str i ∧ y = .str j ∧ i.length + j.length ≤ sizeLine ∧ Q (.str (i ++ j)) H
theorem op_addStr {X : Cx} : OpR X (binaryOp .Add) rAddStr := op_add_str
theorem de_addStr (h : DE K W ta Γ fun d => DE K W tb Γ fun e => ∃ i j, d = .str i ∧ e = .str j ∧ i.length + j.length ≤ sizeLine ∧ R (.str (i ++ j))) : DE K W (tOp rAddStr ta tb) Γ R :=
  de_op (F := fun d e R => ∃ i j, d = .str i ∧ e = .str j ∧ i.length + j.length ≤ sizeLine ∧ R (.str (i ++ j))) (fun W G H x y d e R Q w hx hy f k => by
    obtain ⟨i, j, rfl, rfl, c, r⟩ := f
    exact ⟨i, j, dp_str hx, dp_str hy, c, k _ _ G H (Same.refl G) w (.str _) r⟩) h
/-- any data compared -/
theorem de_eqD (h : DE K W ta Γ fun d => DE K W tb Γ fun e => SeqAt.shaped d = true ∧ SeqAt.shaped e = true ∧ R (.bool (PyData.eqv d e))) : DE K W (tOp (rEqD K) ta tb) Γ R :=
  de_op (F := fun d e R => SeqAt.shaped d = true ∧ SeqAt.shaped e = true ∧ R (.bool (PyData.eqv d e))) (fun W G H x y d e R Q w hx hy f k => by
    obtain ⟨s1, s2, r⟩ := f
    exact ⟨d, e, dp_mono w.ex _ _ hx, dp_mono w.ex _ _ hy, s1, s2, k _ _ G H (Same.refl G) w (.bl _) r⟩) h
theorem de_neD (h : DE K W ta Γ fun d => DE K W tb Γ fun e => SeqAt.shaped d = true ∧ SeqAt.shaped e = true ∧ R (.bool (!PyData.eqv d e))) : DE K W (tOp (rNeD K) ta tb) Γ R :=
  de_op (F := fun d e R => SeqAt.shaped d = true ∧ SeqAt.shaped e = true ∧ R (.bool (!PyData.eqv d e))) (fun W G H x y d e R Q w hx hy f k => by
    obtain ⟨s1, s2, r⟩ := f
    exact ⟨d, e, dp_mono w.ex _ _ hx, dp_mono w.ex _ _ hy, s1, s2, k _ _ G H (Same.refl G) w (.bl _) r⟩) h
theorem de_inD (h : DE K W ta Γ fun d => DE K W tb Γ fun e => ∃ ds, e = .list ds ∧ SeqAt.shaped d = true ∧ SeqAt.shaped (.list ds) = true ∧ R (.bool (ds.any fun z => PyData.eqv z d))) : DE K W (tOp (rInD K) ta tb) Γ R :=
  de_op (F := fun d e R => ∃ ds, e = .list ds ∧ SeqAt.shaped d = true ∧ SeqAt.shaped (.list ds) = true ∧ R (.bool (ds.any fun z => PyData.eqv z d))) (fun W G H x y d e R Q w hx hy f k => by
    obtain ⟨ds, rfl, s1, s2, r⟩ := f
    exact ⟨d, ds, dp_mono w.ex _ _ hx, dp_mono w.ex _ _ hy, s1, s2, k _ _ G H (Same.refl G) w (.bl _) r⟩) h
/-- x is None -/
def rIsNo : R2 := fun x y H Q => y = .non ∧ Q (.bl (decide (x = .non))) H
def rIsNot : R2 := fun x y H Q => y = .non ∧ Q (.bl (!decide (x = .non))) H
theorem op_isNo {X : Cx} : OpR X (compareOp .Is) rIsNo := op_isN
theorem op_isNot {X : Cx} : OpR X (compareOp .IsNot) rIsNot := op_notN
def isNo : PyData → Bool
  | .none => true
  | _ => false
theorem dp_isNo {G : Hp} {v : V} {d : PyData} (h : Dp K G v d) : decide (v = .non) = isNo d := by
  cases h <;> first | rfl | exact decide_eq_false (fun z => nomatch z)
theorem de_isNo (h : DE K W ta Γ fun d => DE K W tb Γ fun e => e = .none ∧ R (.bool (isNo d))) : DE K W (tOp rIsNo ta tb) Γ R :=
  de_op (F := fun d e R => e = .none ∧ R (.bool (isNo d))) (fun W G H x y d e R Q w hx hy f k => by
    obtain ⟨rfl, r⟩ := f
    refine ⟨dp_none hy, ?_⟩
    rw [dp_isNo hx]
    exact k _ _ G H (Same.refl G) w (.bl _) r) h
theorem de_isNot (h : DE K W ta Γ fun d => DE K W tb Γ fun e => e = .none ∧ R (.bool (!isNo d))) : DE K W (tOp rIsNot ta tb) Γ R :=
  de_op (F := fun d e R => e = .none ∧ R (.bool (!isNo d))) (fun W G H x y d e R Q w hx hy f k => by
    obtain ⟨rfl, r⟩ := f
    refine ⟨dp_none hy, ?_⟩
    rw [dp_isNo hx]
    exact k _ _ G H (Same.refl G) w (.bl _) r) h
/-- scalars compared -/
def fl : PyData → Bool
  | .none | .int _ | .str _ | .bool _ => true
  | _ => false
theorem dp_flat {G : Hp} {v : V} {d : PyData} (h : Dp K G v d) (f : fl d = true) : cD v = some d := by
  cases h <;> first | rfl | cases f

theorem atI_map {xs : List V} {ds : List PyData} {G : Hp} (h : DpAll K G xs ds) {i : Int} {d : PyData} (e : atI ds i = some d) : ∃ v, atI xs i = some v ∧ Dp K G v d := by
  unfold atI at e ⊢
  have hl := dpA_len _ _ h
  rw [hl]
  cases hj : ixN ds.length i with
  | none => rw [hj] at e; cases e
  | some j =>
    rw [hj] at e
    exact dpA_get ds xs h j d e
theorem de_ixT (h : DE K W ta Γ fun d => DE K W tb Γ fun e => ∃ ds i x, d = .tuple ds ∧ e = .int i ∧ atI ds i = some x ∧ R x) : DE K W (tOp (rIxT K) ta tb) Γ R :=
  de_op (F := fun d e R => ∃ ds i x, d = .tuple ds ∧ e = .int i ∧ atI ds i = some x ∧ R x) (fun W G H x y d e R Q w hx hy f k => by
    obtain ⟨ds, i, z, rfl, rfl, ea, r⟩ := f
    obtain ⟨a, xs, rfl, hs, hA⟩ := dp_tup hx
    obtain ⟨v, ev, hv⟩ := atI_map hA ea
    exact ⟨a, xs, i, v, rfl, dp_int hy, seqT w.ex hs, ev, k _ _ G H (Same.refl G) w hv r⟩) h
theorem de_ixL (h : DE K W ta Γ fun d => DE K W tb Γ fun e => ∃ ds i x, d = .list ds ∧ e = .int i ∧ atI ds i = some x ∧ R x) : DE K W (tOp (rIxL K) ta tb) Γ R :=
  de_op (F := fun d e R => ∃ ds i x, d = .list ds ∧ e = .int i ∧ atI ds i = some x ∧ R x) (fun W G H x y d e R Q w hx hy f k => by
    obtain ⟨ds, i, z, rfl, rfl, ea, r⟩ := f
    obtain ⟨a, xs, rfl, hs, hA⟩ := dp_lst hx
    obtain ⟨v, ev, hv⟩ := atI_map hA ea
    exact ⟨a, xs, i, v, rfl, dp_int hy, w.ex.seq hs, ev, k _ _ G H (Same.refl G) w hv r⟩) h
theorem de_un {r : V → Hp → VK → Prop} {F : PyData → (PyData → Prop) → Prop} (hr : ∀ (W : Own) (G H : Hp) (x : V) (d : PyData) (R : PyData → Prop) (Q : VK), W.Ok G H → Dp K G x d → F d R → (∀ v z G' H', Same G G' → W.Ok G' H' → Dp K G' v z → R z → Q v H') → r x H Q)
    (h : DE K W ta Γ fun d => F d R) : DE K W (tUn r ta) Γ R := fun G H σ Q w n k =>
  h G H σ _ w n fun x d G1 H1 s1 w1 hx q1 => hr W G1 H1 x d R Q w1 hx q1 fun v z G3 H3 s3 w3 hz rz => k v z G3 H3 (s1.trans s3) w3 hz rz
theorem de_neg (h : DE K W ta Γ fun d => ∃ i, d = .int i ∧ R (.int (-i))) : DE K W (tUn (rU fun i => .int (-i)) ta) Γ R :=
  de_un (F := fun d R => ∃ i, d = .int i ∧ R (.int (-i))) (fun W G H x d R Q w hx f k => by
    obtain ⟨i, rfl, r⟩ := f
    exact ⟨i, dp_int hx, k _ _ G H (Same.refl G) w (.int _) r⟩) h

/-! ### arguments, displays -/
theorem da_nil {R : List Slot → Prop} (q : R []) : DA K W tNil Γ R := fun G H σ Q w n k => k [] [] G H (Same.refl G) w .nil q
theorem da_cons {R : List Slot → Prop} (h : DE K W ta Γ fun d => DA K W tr Γ fun ss => R (.d d :: ss)) : DA K W (tCons ta tr) Γ R := fun G H σ Q w n k =>
  h G H σ _ w n fun x d G1 H1 s1 w1 hx q1 => q1 G1 H1 σ _ w1 (n.mono s1) fun vs ss G2 H2 s2 w2 ha q2 => k (x :: vs) (.d d :: ss) G2 H2 (s1.trans s2) w2 (.cons ⟨x, rfl, dp_mono s2 _ _ hx⟩ ha) q2
/-- an argument that is no data -/
theorem da_consV {R : List Slot → Prop} {i : Nat} {x : V} (h : Γ[i]? = some (.v x)) (q : DA K W tr Γ fun ss => R (.v x :: ss)) : DA K W (tCons (tVar i) tr) Γ R := fun G H σ Q w n k =>
  ⟨x, n.getV h, q G H σ _ w n fun vs ss G2 H2 s2 w2 ha q2 => k (x :: vs) (.v x :: ss) G2 H2 s2 w2 (.cons rfl ha) q2⟩
theorem da_consC {R : List Slot → Prop} {x : V} (q : DA K W tr Γ fun ss => R (.v x :: ss)) : DA K W (tCons (tC x) tr) Γ R := fun G H σ Q w n k =>
  q G H σ _ w n fun vs ss G2 H2 s2 w2 ha q2 => k (x :: vs) (.v x :: ss) G2 H2 s2 w2 (.cons rfl ha) q2
theorem de_tup (h : DA K W tr Γ fun ss => ∃ ds, dsOf ss = some ds ∧ ds.length ≤ 1000 ∧ R (.tuple ds)) : DE K W (tTup tr) Γ R := fun G H σ Q w n k =>
  h G H σ _ w n fun vs ss G1 H1 s1 w1 ha ⟨ds, e, hl, r⟩ => by
    have hA := args_ds ha e
    refine ⟨by rw [dpA_len _ _ hA]; exact Nat.le_of_lt (small1000 hl), fun p hp => ?_⟩
    have hG := w1.ex.free hp
    refine k _ _ (upd G1 p (.tup vs)) _ (s1.trans (same_new hG)) (w1.fresh hp) (.tup (SqT.of upd_same) (dpA_mono (same_new hG) _ _ hA)) r
theorem de_lst (h : DA K W tr Γ fun ss => ∃ ds, dsOf ss = some ds ∧ ds.length ≤ 1000 ∧ R (.list ds)) : DE K W (tLst tr) Γ R := fun G H σ Q w n k =>
  h G H σ _ w n fun vs ss G1 H1 s1 w1 ha ⟨ds, e, hl, r⟩ => by
    have hA := args_ds ha e
    refine ⟨by rw [dpA_len _ _ hA]; exact Nat.le_of_lt (small1000 hl), fun p hp => ?_⟩
    have hG := w1.ex.free hp
    refine k _ _ (upd G1 p (.lst vs)) _ (s1.trans (same_new hG)) (w1.fresh hp) (.lst (SqL.of upd_same) (dpA_mono (same_new hG) _ _ hA)) r

/-! ### calls -/
theorem de_call {S : List PyData → (PyData → Prop) → Prop} {E : XK} (h : DA K W tr Γ fun ss => ∃ ds, dsOf ss = some ds ∧ S ds R) : DE K W (tCall (spD K S) [] E tr) Γ R := fun G H σ Q w n k =>
  h G H σ _ w n fun vs ss G1 H1 s1 w1 ha ⟨ds, e, s⟩ => by
    rw [List.append_nil]
    exact ⟨W, G1, ds, R, w1, args_ds ha e, s, fun v d G2 H2 s2 w2 hd r => k v d G2 H2 (s1.trans s2) w2 hd r⟩
/-- a built-in's call, by data -/
def CbD (K : PySem.W.Frag) (r : List V → Hp → VK → Prop) (F : List PyData → (PyData → Prop) → Prop) : Prop :=
  ∀ (W : Own) (G H : Hp) (vs : List V) (ds : List PyData) (R : PyData → Prop) (Q : VK), W.Ok G H → DpAll K G vs ds → F ds R → (∀ v z G' H', Same G G' → W.Ok G' H' → Dp K G' v z → R z → Q v H') → r vs H Q
theorem de_cb {r : List V → Hp → VK → Prop} {F : List PyData → (PyData → Prop) → Prop} (hr : CbD K r F) (h : DA K W tr Γ fun ss => ∃ ds, dsOf ss = some ds ∧ F ds R) : DE K W (tCB r tr) Γ R := fun G H σ Q w n k =>
  h G H σ _ w n fun vs ss G1 H1 s1 w1 ha ⟨ds, e, s⟩ => hr W G1 H1 vs ds R Q w1 (args_ds ha e) s fun v d G2 H2 s2 w2 hd r => k v d G2 H2 (s1.trans s2) w2 hd r
def rAbs : List V → Hp → VK → Prop := fun xs H Q => ∃ i, xs = [.int i] ∧ Q (.int (if i < 0 then -i else i)) H
theorem cb_abs {X : Cx} : CallR X (.builtin "abs") rAbs := call_abs
theorem one_of {G : Hp} {vs : List V} {d : PyData} (h : DpAll K G vs [d]) : ∃ v, vs = [v] ∧ Dp K G v d := by
  cases h with
  | cons h1 h2 => cases h2; exact ⟨_, rfl, h1⟩
theorem two_of {G : Hp} {vs : List V} {d e : PyData} (h : DpAll K G vs [d, e]) : ∃ v w, vs = [v, w] ∧ Dp K G v d ∧ Dp K G w e := by
  cases h with
  | cons h1 h2 =>
    obtain ⟨w, rfl, h3⟩ := one_of h2
    exact ⟨_, w, rfl, h1, h3⟩
theorem de_abs (h : DA K W tr Γ fun ss => ∃ i, dsOf ss = some [.int i] ∧ R (.int (i.natAbs : Int))) : DE K W (tCB rAbs tr) Γ R :=
  de_cb (F := fun ds R => ∃ i, ds = [.int i] ∧ R (.int (i.natAbs : Int))) (fun W G H vs ds R Q w hA f k => by
    obtain ⟨i, rfl, r⟩ := f
    obtain ⟨v, rfl, hv⟩ := one_of hA
    cases dp_int hv
    have e : (if i < 0 then -i else i) = (i.natAbs : Int) := by split <;> omega
    rw [← e] at r
    exact ⟨i, rfl, k _ _ G H (Same.refl G) w (.int _) r⟩) (fun G H σ Q w n k => h G H σ Q w n fun vs ss G' H' s w' a ⟨i, e, r⟩ => k vs ss G' H' s w' a ⟨_, e, i, rfl, r⟩)
def rInt1 : List V → Hp → VK → Prop := fun xs H Q => (∃ i, xs = [.int i] ∧ Q (.int i) H) ∨ ∃ k, xs = [.bl k] ∧ Q (.int (if k then 1 else 0)) H
theorem cb_int {X : Cx} : CallR X (.type "int") rInt1 := call_int1
theorem de_int (h : DA K W tr Γ fun ss => ∃ i, dsOf ss = some [.int i] ∧ R (.int i)) : DE K W (tCB rInt1 tr) Γ R :=
  de_cb (F := fun ds R => ∃ i, ds = [.int i] ∧ R (.int i)) (fun W G H vs ds R Q w hA f k => by
    obtain ⟨i, rfl, r⟩ := f
    obtain ⟨v, rfl, hv⟩ := one_of hA
    cases dp_int hv
    exact .inl ⟨i, rfl, k _ _ G H (Same.refl G) w (.int _) r⟩) (fun G H σ Q w n k => h G H σ Q w n fun vs ss G' H' s w' a ⟨i, e, r⟩ => k vs ss G' H' s w' a ⟨_, e, i, rfl, r⟩)
theorem de_intB (h : DA K W tr Γ fun ss => ∃ b, dsOf ss = some [.bool b] ∧ R (.int (if b then 1 else 0))) : DE K W (tCB rInt1 tr) Γ R :=
  de_cb (F := fun ds R => ∃ b, ds = [.bool b] ∧ R (.int (if b then 1 else 0))) (fun W G H vs ds R Q w hA f k => by
    obtain ⟨i, rfl, r⟩ := f
    obtain ⟨v, rfl, hv⟩ := one_of hA
    cases dp_bool hv
    exact .inr ⟨i, rfl, k _ _ G H (Same.refl G) w (.int _) r⟩) (fun G H σ Q w n k => h G H σ Q w n fun vs ss G' H' s w' a ⟨i, e, r⟩ => k vs ss G' H' s w' a ⟨_, e, i, rfl, r⟩)
def rStr1 : List V → Hp → VK → Prop := fun xs H Q => ∃ i, xs = [.int i] ∧ i.natAbs.log2 < 1920 ∧ Q (.str (toString i)) H
theorem cb_str {X : Cx} : CallR X (.type "str") rStr1 := call_str_int
theorem de_str (h : DA K W tr Γ fun ss => ∃ i, dsOf ss = some [.int i] ∧ i.natAbs.log2 < 1920 ∧ R (.str (Str.ofString (toString i)))) : DE K W (tCB rStr1 tr) Γ R :=
  de_cb (F := fun ds R => ∃ i, ds = [.int i] ∧ i.natAbs.log2 < 1920 ∧ R (.str (Str.ofString (toString i)))) (fun W G H vs ds R Q w hA f k => by
    obtain ⟨i, rfl, hl, r⟩ := f
    obtain ⟨v, rfl, hv⟩ := one_of hA
    cases dp_int hv
    exact ⟨i, rfl, hl, k _ _ G H (Same.refl G) w (.str _) r⟩) (fun G H σ Q w n k => h G H σ Q w n fun vs ss G' H' s w' a ⟨i, e, r⟩ => k vs ss G' H' s w' a ⟨_, e, i, rfl, r⟩)
def rMax2 : List V → Hp → VK → Prop := fun xs H Q => ∃ i j, xs = [.int i, .int j] ∧ Q (.int (if j > i then j else i)) H
def rMin2 : List V → Hp → VK → Prop := fun xs H Q => ∃ i j, xs = [.int i, .int j] ∧ Q (.int (if j < i then j else i)) H
theorem cb_max {X : Cx} (hc : X.calm = true) : CallR X (.builtin "max") rMax2 := call_max2 hc
theorem cb_min {X : Cx} (hc : X.calm = true) : CallR X (.builtin "min") rMin2 := call_min2 hc
theorem de_max (h : DA K W tr Γ fun ss => ∃ i j, dsOf ss = some [.int i, .int j] ∧ R (.int (if j > i then j else i))) : DE K W (tCB rMax2 tr) Γ R :=
  de_cb (F := fun ds R => ∃ i j, ds = [.int i, .int j] ∧ R (.int (if j > i then j else i))) (fun W G H vs ds R Q w hA f k => by
    obtain ⟨i, j, rfl, r⟩ := f
    obtain ⟨v, u, rfl, hv, hu⟩ := two_of hA
    cases dp_int hv
    cases dp_int hu
    exact ⟨i, j, rfl, k _ _ G H (Same.refl G) w (.int _) r⟩) (fun G H σ Q w n k => h G H σ Q w n fun vs ss G' H' s w' a ⟨i, j, e, r⟩ => k vs ss G' H' s w' a ⟨_, e, i, j, rfl, r⟩)
theorem de_min (h : DA K W tr Γ fun ss => ∃ i j, dsOf ss = some [.int i, .int j] ∧ R (.int (if j < i then j else i))) : DE K W (tCB rMin2 tr) Γ R :=
  de_cb (F := fun ds R => ∃ i j, ds = [.int i, .int j] ∧ R (.int (if j < i then j else i))) (fun W G H vs ds R Q w hA f k => by
    obtain ⟨i, j, rfl, r⟩ := f
    obtain ⟨v, u, rfl, hv, hu⟩ := two_of hA
    cases dp_int hv
    cases dp_int hu
    exact ⟨i, j, rfl, k _ _ G H (Same.refl G) w (.int _) r⟩) (fun G H σ Q w n k => h G H σ Q w n fun vs ss G' H' s w' a ⟨i, j, e, r⟩ => k vs ss G' H' s w' a ⟨_, e, i, j, rfl, r⟩)
def rLenQ (K : PySem.W.Frag) : List V → Hp → VK → Prop := fun xs H Q => ∃ p ys, xs = [.ref p] ∧ (SqL K H p ys ∨ SqT K H p ys) ∧ Q (.int ys.length) H
theorem cb_len {X : Cx} : CallR X (.builtin "len") (rLenQ X.K) := call_len_seq
theorem de_len (h : DA K W tr Γ fun ss => ∃ ds, (dsOf ss = some [.list ds] ∨ dsOf ss = some [.tuple ds]) ∧ R (.int ds.length)) : DE K W (tCB (rLenQ K) tr) Γ R :=
  de_cb (F := fun es R => ∃ ds, (es = [.list ds] ∨ es = [.tuple ds]) ∧ R (.int ds.length)) (fun W G H vs es R Q w hA f k => by
    obtain ⟨ds, rfl | rfl, r⟩ := f
    · obtain ⟨v, rfl, hv⟩ := one_of hA
      obtain ⟨a, xs, rfl, hs, hA⟩ := dp_lst hv
      refine ⟨a, xs, rfl, .inl (w.ex.seq hs), ?_⟩
      rw [dpA_len _ _ hA]
      exact k _ _ G H (Same.refl G) w (.int _) r
    · obtain ⟨v, rfl, hv⟩ := one_of hA
      obtain ⟨a, xs, rfl, hs, hA⟩ := dp_tup hv
      refine ⟨a, xs, rfl, .inr (seqT w.ex hs), ?_⟩
      rw [dpA_len _ _ hA]
      exact k _ _ G H (Same.refl G) w (.int _) r) (fun G H σ Q w n k => h G H σ Q w n fun vs ss G' H' s w' a ⟨ds, e, r⟩ => by
        rcases e with e | e
        · exact k vs ss G' H' s w' a ⟨_, e, ds, .inl rfl, r⟩
        · exact k vs ss G' H' s w' a ⟨_, e, ds, .inr rfl, r⟩)
def rLenS : List V → Hp → VK → Prop := fun xs H Q => ∃ z, xs = [.str z] ∧ z.length ≤ sizeLine ∧ Q (.int z.length) H
theorem cb_lenS {X : Cx} : CallR X (.builtin "len") rLenS := call_len_str
theorem de_lenS (h : DA K W tr Γ fun ss => ∃ z, dsOf ss = some [.str z] ∧ z.length ≤ sizeLine ∧ R (.int z.length)) : DE K W (tCB rLenS tr) Γ R :=
  de_cb (F := fun es R => ∃ z, es = [.str z] ∧ z.length ≤ sizeLine ∧ R (.int z.length)) (fun W G H vs es R Q w hA f k => by
    obtain ⟨z, rfl, hl, r⟩ := f
    obtain ⟨v, rfl, hv⟩ := one_of hA
    cases dp_str hv
    exact ⟨z, rfl, hl, k _ _ G H (Same.refl G) w (.int _) r⟩) (fun G H σ Q w n k => h G H σ Q w n fun vs ss G' H' s w' a ⟨z, e, r⟩ => k vs ss G' H' s w' a ⟨_, e, z, rfl, r⟩)
/-- list(x), tuple(x) -/
def rListQ (K : PySem.W.Frag) : List V → Hp → VK → Prop := fun xs H Q => ∃ p ys, xs = [.ref p] ∧ (SqL K H p ys ∨ SqT K H p ys) ∧ ∀ l, H l = none → Q (.ref l) (upd H l (.lst ys))
theorem cb_list {X : Cx} : CallR X (.type "list") (rListQ X.K) := call_list_of
theorem seq_of {G H : Hp} {v : V} {ds : List PyData} (s : Same G H) (h : Dp K G v (.list ds) ∨ Dp K G v (.tuple ds)) : ∃ a xs, v = .ref a ∧ (SqL K H a xs ∨ SqT K H a xs) ∧ DpAll K G xs ds := by
  rcases h with h | h
  · obtain ⟨a, xs, rfl, hs, hA⟩ := dp_lst h
    exact ⟨a, xs, rfl, .inl (s.seq hs), hA⟩
  · obtain ⟨a, xs, rfl, hs, hA⟩ := dp_tup h
    exact ⟨a, xs, rfl, .inr (seqT s hs), hA⟩
theorem de_list (h : DA K W tr Γ fun ss => ∃ ds, (dsOf ss = some [.list ds] ∨ dsOf ss = some [.tuple ds]) ∧ R (.list ds)) : DE K W (tCB (rListQ K) tr) Γ R :=
  de_cb (F := fun es R => ∃ ds, (es = [.list ds] ∨ es = [.tuple ds]) ∧ R (.list ds)) (fun W G H vs es R Q w hA f k => by
    obtain ⟨ds, e, r⟩ := f
    have hv : ∃ v, vs = [v] ∧ (Dp K G v (.list ds) ∨ Dp K G v (.tuple ds)) := by
      rcases e with rfl | rfl
      · obtain ⟨v, e, h⟩ := one_of hA
        exact ⟨v, e, .inl h⟩
      · obtain ⟨v, e, h⟩ := one_of hA
        exact ⟨v, e, .inr h⟩
    obtain ⟨v, rfl, hv⟩ := hv
    obtain ⟨a, xs, rfl, hs, hA⟩ := seq_of w.ex hv
    refine ⟨a, xs, rfl, hs, fun p hp => ?_⟩
    have hG := w.ex.free hp
    exact k _ _ (upd G p (.lst xs)) _ (same_new hG) (w.fresh hp) (.lst (SqL.of upd_same) (dpA_mono (same_new hG) _ _ hA)) r) (fun G H σ Q w n k => h G H σ Q w n fun vs ss G' H' s w' a ⟨ds, e, r⟩ => by
        rcases e with e | e
        · exact k vs ss G' H' s w' a ⟨_, e, ds, .inl rfl, r⟩
        · exact k vs ss G' H' s w' a ⟨_, e, ds, .inr rfl, r⟩)
def rTupQ (K : PySem.W.Frag) : List V → Hp → VK → Prop := fun xs H Q => ∃ p ys, xs = [.ref p] ∧ ((SqL K H p ys ∧ ∀ l, H l = none → Q (.ref l) (upd H l (.tup ys))) ∨ (SqT K H p ys ∧ Q (.ref p) H))
theorem cb_tuple {X : Cx} : CallR X (.type "tuple") (rTupQ X.K) := call_tuple_of
theorem de_tuple (h : DA K W tr Γ fun ss => ∃ ds, (dsOf ss = some [.list ds] ∨ dsOf ss = some [.tuple ds]) ∧ R (.tuple ds)) : DE K W (tCB (rTupQ K) tr) Γ R :=
  de_cb (F := fun es R => ∃ ds, (es = [.list ds] ∨ es = [.tuple ds]) ∧ R (.tuple ds)) (fun W G H vs es R Q w hA f k => by
    obtain ⟨ds, rfl | rfl, r⟩ := f
    · obtain ⟨v, rfl, hv⟩ := one_of hA
      obtain ⟨a, xs, rfl, hs, hA⟩ := dp_lst hv
      refine ⟨a, xs, rfl, .inl ⟨w.ex.seq hs, fun p hp => ?_⟩⟩
      have hG := w.ex.free hp
      exact k _ _ (upd G p (.tup xs)) _ (same_new hG) (w.fresh hp) (.tup (SqT.of upd_same) (dpA_mono (same_new hG) _ _ hA)) r
    · obtain ⟨v, rfl, hv⟩ := one_of hA
      obtain ⟨a, xs, rfl, hs, hA⟩ := dp_tup hv
      exact ⟨a, xs, rfl, .inr ⟨seqT w.ex hs, k _ _ G H (Same.refl G) w (.tup hs hA) r⟩⟩) (fun G H σ Q w n k => h G H σ Q w n fun vs ss G' H' s w' a ⟨ds, e, r⟩ => by
        rcases e with e | e
        · exact k vs ss G' H' s w' a ⟨_, e, ds, .inl rfl, r⟩
        · exact k vs ss G' H' s w' a ⟨_, e, ds, .inr rfl, r⟩)
/-- isinstance(x, T), T a built-in type -/
def tyD : PyData → String
  | .none => "NoneType"
  | .bool _ => "bool"
  | .int _ => "int"
  | .str _ => "str"
  | .list _ => "list"
  | .tuple _ => "tuple"
  | .dict _ => "dict"
theorem tyx_of {G H : Hp} {v : V} {d : PyData} (s : Same G H) (h : Dp K G v d) : TyX K H v (.type (tyD d)) := by
  cases h with
  | non => exact .base .non
  | bl b => exact .base (.bl b)
  | int i => exact .base (.int i)
  | str x => exact .base (.str x)
  | lst hs ha =>
    rcases hs with (h | ⟨o, h⟩) | ⟨o, its, n, hl, hc, _⟩
    · exact .base (.lst (s _ _ h))
    · exact .base (.frz (s _ _ h))
    · exact .kList hl hc
  | tup hs ha =>
    rcases hs with (h | ⟨o, h⟩) | ⟨o, its, n, hl, hc, _⟩
    · exact .base (.tup (s _ _ h))
    · exact .fTuple (s _ _ h)
    · exact .kTuple hl hc
theorem de_isi {n : String} {b : PyData → Bool} (hb : ∀ d, (∀ kvs, d ≠ .dict kvs) → kitB (tyD d) n = some (b d)) (h : DE K W ta Γ fun d => R (.bool (b d))) : DE K W (tCB (rIsi K) (tCons ta (tCons (tC (.ty n)) tNil))) Γ R := fun G H σ Q w m k =>
  h G H σ _ w m fun x d G1 H1 s1 w1 hx r => ⟨x, .ty n, .type (tyD d), .type n, b d, rfl, .ty n, tyx_of w1.ex hx, kit_ty (hb d fun kvs z => by subst z; cases hx), k _ _ G1 H1 s1 w1 (.bl _) r⟩
def isTup : PyData → Bool | .tuple _ => true | _ => false
def isLst : PyData → Bool | .list _ => true | _ => false
def isStr : PyData → Bool | .str _ => true | _ => false
def isBool : PyData → Bool | .bool _ => true | _ => false
def isIntB : PyData → Bool | .bool _ => true | .int _ => true | _ => false
theorem de_isTup (h : DE K W ta Γ fun d => R (.bool (isTup d))) : DE K W (tCB (rIsi K) (tCons ta (tCons (tC (.ty "tuple")) tNil))) Γ R := de_isi (b := isTup) (fun d _ => by cases d <;> (dsimp only [tyD, isTup]; decide +kernel)) h
theorem de_isLst (h : DE K W ta Γ fun d => R (.bool (isLst d))) : DE K W (tCB (rIsi K) (tCons ta (tCons (tC (.ty "list")) tNil))) Γ R := de_isi (b := isLst) (fun d _ => by cases d <;> (dsimp only [tyD, isLst]; decide +kernel)) h
theorem de_isStr (h : DE K W ta Γ fun d => R (.bool (isStr d))) : DE K W (tCB (rIsi K) (tCons ta (tCons (tC (.ty "str")) tNil))) Γ R := de_isi (b := isStr) (fun d _ => by cases d <;> (dsimp only [tyD, isStr]; decide +kernel)) h
theorem de_isBool (h : DE K W ta Γ fun d => R (.bool (isBool d))) : DE K W (tCB (rIsi K) (tCons ta (tCons (tC (.ty "bool")) tNil))) Γ R := de_isi (b := isBool) (fun d _ => by cases d <;> (dsimp only [tyD, isBool]; decide +kernel)) h
theorem de_isInt (h : DE K W ta Γ fun d => R (.bool (isIntB d))) : DE K W (tCB (rIsi K) (tCons ta (tCons (tC (.ty "int")) tNil))) Γ R := de_isi (b := isIntB) (fun d _ => by cases d <;> (dsimp only [tyD, isIntB]; decide +kernel)) h
end
end DL
set_option Elab.async false
set_option linter.all false
set_option maxRecDepth 100000
set_option maxHeartbeats 2000000
/-! DLay2: tests, statements, loops, comprehensions, the rule for a def, all by data. -/
namespace DL
open PySem PySem.Spec PyProof.Rows L2
section
variable {K : PySem.W.Frag} {W : Own} {Γ : List Slot} {R : PyData → Prop} {ta tb tc te : TE} {t u : TT} {tr : TA}

/-! ### tests -/
theorem dt_test {R : Bool → Prop} (h : DE K W te Γ fun d => ∃ b, d = .bool b ∧ R b) : DT K W (tTest te) Γ R := fun G H σ Q w n k =>
  h G H σ _ w n fun v d G1 H1 s1 w1 hd ⟨b, e, r⟩ => by
    subst e
    exact ⟨b, dp_bool hd, k b G1 H1 s1 w1 r⟩
theorem dt_B {R : Bool → Prop} (h : DE K W te Γ fun d => ∃ b, d = .bool b ∧ R b) : DT K W (tB te) Γ R := fun G H σ Q w n k =>
  h G H σ _ w n fun v d G1 H1 s1 w1 hd ⟨b, e, r⟩ => by
    subst e
    exact ⟨b, dp_bool hd, k b G1 H1 s1 w1 r⟩
theorem dt_not {R : Bool → Prop} (h : DT K W t Γ fun b => R (!b)) : DT K W (tNot t) Γ R := fun G H σ Q w n k =>
  h G H σ _ w n fun b G1 H1 s1 w1 r => k _ G1 H1 s1 w1 r
theorem dt_and {R : Bool → Prop} (h : DT K W t Γ fun b => if b = true then DT K W u Γ R else R false) : DT K W (tAnd t u) Γ R := fun G H σ Q w n k =>
  h G H σ _ w n fun b G1 H1 s1 w1 r => by
    cases b with
    | true => exact r G1 H1 σ _ w1 (n.mono s1) fun c G2 H2 s2 w2 q => k c G2 H2 (s1.trans s2) w2 q
    | false => exact k _ G1 H1 s1 w1 r
theorem dt_or {R : Bool → Prop} (h : DT K W t Γ fun b => if b = true then R true else DT K W u Γ R) : DT K W (tOr t u) Γ R := fun G H σ Q w n k =>
  h G H σ _ w n fun b G1 H1 s1 w1 r => by
    cases b with
    | false => exact r G1 H1 σ _ w1 (n.mono s1) fun c G2 H2 s2 w2 q => k c G2 H2 (s1.trans s2) w2 q
    | true => exact k _ G1 H1 s1 w1 r
/-- and, or, not as values of flags -/
theorem de_andV (h : DE K W ta Γ fun d => ∃ b, d = .bool b ∧ if b = true then DE K W tb Γ R else R (.bool false)) : DE K W (tAndV ta tb) Γ R := fun G H σ Q w n k =>
  h G H σ _ w n fun v d G1 H1 s1 w1 hd ⟨b, e, r⟩ => by
    subst e
    refine ⟨b, dp_bool hd, ?_⟩
    cases b with
    | true => exact r G1 H1 σ _ w1 (n.mono s1) fun v d G2 H2 s2 w2 q r => k v d G2 H2 (s1.trans s2) w2 q r
    | false => exact k _ _ G1 H1 s1 w1 (.bl _) r
theorem de_orV (h : DE K W ta Γ fun d => ∃ b, d = .bool b ∧ if b = true then R (.bool true) else DE K W tb Γ R) : DE K W (tOrV ta tb) Γ R := fun G H σ Q w n k =>
  h G H σ _ w n fun v d G1 H1 s1 w1 hd ⟨b, e, r⟩ => by
    subst e
    refine ⟨b, dp_bool hd, ?_⟩
    cases b with
    | false => exact r G1 H1 σ _ w1 (n.mono s1) fun v d G2 H2 s2 w2 q r => k v d G2 H2 (s1.trans s2) w2 q r
    | true => exact k _ _ G1 H1 s1 w1 (.bl _) r
theorem de_notV (h : DE K W ta Γ fun d => ∃ b, d = .bool b ∧ R (.bool (!b))) : DE K W (tNotV ta) Γ R := fun G H σ Q w n k =>
  h G H σ _ w n fun v d G1 H1 s1 w1 hd ⟨b, e, r⟩ => by
    subst e
    exact ⟨b, dp_bool hd, k _ _ G1 H1 s1 w1 (.bl _) r⟩
theorem de_if (h : DT K W t Γ fun b => if b = true then DE K W ta Γ R else DE K W tb Γ R) : DE K W (tIf t ta tb) Γ R := fun G H σ Q w n k =>
  h G H σ _ w n fun b G1 H1 s1 w1 r => by
    cases b with
    | true => exact r G1 H1 σ _ w1 (n.mono s1) fun v d G2 H2 s2 w2 q r => k v d G2 H2 (s1.trans s2) w2 q r
    | false => exact r G1 H1 σ _ w1 (n.mono s1) fun v d G2 H2 s2 w2 q r => k v d G2 H2 (s1.trans s2) w2 q r
/-- a < b < c -/
theorem de_chain {r r' : R2} {F F' : PyData → PyData → (PyData → Prop) → Prop} (hr : OpD K r F) (hr' : OpD K r' F')
    (h : DE K W ta Γ fun d => DE K W tb Γ fun e => F d e fun z => ∃ b, z = .bool b ∧ if b = true then DE K W tc Γ fun g => F' e g R else R (.bool false)) : DE K W (tChain r r' ta tb tc) Γ R := fun G H σ Q w n k =>
  h G H σ _ w n fun x d G1 H1 s1 w1 hx q1 => q1 G1 H1 σ _ w1 (n.mono s1) fun y e G2 H2 s2 w2 hy q2 =>
    hr W G2 H2 x y d e _ _ w2 (dp_mono s2 _ _ hx) hy q2 fun v z G3 H3 s3 w3 hz ⟨b, ez, rz⟩ => by
      subst ez
      refine ⟨b, dp_bool hz, ?_⟩
      have s13 := (s1.trans s2).trans s3
      cases b with
      | true => exact rz G3 H3 σ _ w3 (n.mono s13) fun v d G4 H4 s4 w4 q r => hr' W G4 H4 y v e d R Q w4 (dp_mono (s3.trans s4) _ _ hy) q r fun v z G5 H5 s5 w5 hz rz => k v z G5 H5 (s13.trans (s4.trans s5)) w5 hz rz
      | false => exact k _ _ G3 H3 s13 w3 (.bl _) rz

/-! ### tuples joined, slices -/
theorem de_catT (h : DE K W ta Γ fun d => DE K W tb Γ fun e => ∃ ds es, d = .tuple ds ∧ e = .tuple es ∧ ds.length + es.length ≤ 1000 ∧ R (.tuple (ds ++ es))) : DE K W (tOp (rCatA K) ta tb) Γ R :=
  de_op (F := fun d e R => ∃ ds es, d = .tuple ds ∧ e = .tuple es ∧ ds.length + es.length ≤ 1000 ∧ R (.tuple (ds ++ es))) (fun W G H x y d e R Q w hx hy f k => by
    obtain ⟨ds, es, rfl, rfl, hl, r⟩ := f
    obtain ⟨a, xs, rfl, hs, hA⟩ := dp_tup hx
    obtain ⟨b, ys, rfl, hs', hA'⟩ := dp_tup hy
    have l1 := dpA_len _ _ hA
    have l2 := dpA_len _ _ hA'
    refine ⟨a, b, xs, ys, rfl, rfl, seqT w.ex hs, seqT w.ex hs', Nat.le_of_lt (small1000 (by omega)), fun e => ?_, fun e1 e2 => ?_, fun e1 e2 p hp => ?_⟩
    · subst e
      have : ds = [] := List.length_eq_zero_iff.mp l1.symm
      subst this
      exact k _ _ G H (Same.refl G) w hy r
    · subst e2
      have : es = [] := List.length_eq_zero_iff.mp l2.symm
      subst this
      rw [List.append_nil] at r
      exact k _ _ G H (Same.refl G) w hx r
    · have hG := w.ex.free hp
      exact k _ _ (upd G p (.tup (xs ++ ys))) _ (same_new hG) (w.fresh hp) (.tup (SqT.of upd_same) (dpA_app _ _ _ _ (dpA_mono (same_new hG) _ _ hA) (dpA_mono (same_new hG) _ _ hA'))) r) h
/-- t[1:] of a tuple that is not empty -/
theorem de_tail (h : DE K W ta Γ fun d => ∃ x ds, d = .tuple (x :: ds) ∧ R (.tuple ds)) : DE K W (tSl (rSlT K) ta (tPart (tC (.int 1))) tNoPart) Γ R := fun G H σ Q w n k =>
  h G H σ _ w n fun v d G1 H1 s1 w1 hd ⟨x, ds, e, r⟩ => by
    subst e
    obtain ⟨a, xs, rfl, hs, hA⟩ := dp_tup hd
    have l1 := dpA_len _ _ hA
    have ec : cutV xs (some 1) none = xs.drop 1 := by
      unfold cutV
      have e1 : HT.sIx xs.length 0 (some 1) = 1 := by
        have := HT.sIx_nat xs.length 0 1
        rw [show ((1 : Nat) : Int) = 1 from rfl] at this
        rw [this, l1]
        exact Nat.min_eq_left (by rw [List.length_cons]; omega)
      rw [e1, HT.sIx_none]
      exact List.take_of_length_le (by rw [List.length_drop]; omega)
    refine ⟨1, rfl, a, xs, rfl, seqT w1.ex hs, ?_, fun p hp => ?_⟩
    · first
        | (intro z; have z2 := congrArg List.length z; rw [ec, List.length_drop] at z2; rw [l1, List.length_cons] at z2; omega)
        | (have e1 : HT.sIx xs.length 0 (some 1) = 1 := by
            have := HT.sIx_nat xs.length 0 1
            rw [show ((1 : Nat) : Int) = 1 from rfl] at this
            rw [this, l1]
            exact Nat.min_eq_left (by rw [List.length_cons]; omega)
           rw [e1, HT.sIx_none]
           omega)
    · have hG := w1.ex.free hp
      rw [ec]
      exact k _ _ (upd G1 p (.tup (xs.drop 1))) _ (s1.trans (same_new hG)) (w1.fresh hp) (.tup (SqT.of upd_same) (dpA_mono (same_new hG) _ _ (dpA_drop 1 _ _ hA))) r

/-! ### statements -/
variable {P : Po} {ts tu : TS} {g : TG}
theorem ds_nil (q : P.nx Γ) : DS K W tNext Γ P := fun G H σ D w n k1 _ _ _ => k1 Γ σ G H (Same.refl G) w n q
theorem ds_brk (q : P.bk Γ) : DS K W tBreak Γ P := fun G H σ D w n _ _ k3 _ => k3 Γ σ G H (Same.refl G) w n q
theorem ds_cont (q : P.ct Γ) : DS K W tCont Γ P := fun G H σ D w n _ _ _ k4 => k4 Γ σ G H (Same.refl G) w n q
theorem ds_seq (h : DS K W ts Γ { P with nx := fun Γ' => DS K W tu Γ' P }) : DS K W (tSeq ts tu) Γ P := fun G H σ D w n k1 k2 k3 k4 =>
  h G H σ { D with nx := tu D } w n (fun Γ' σ' G' H' s' w' n' q => q G' H' σ' D w' n' (fun a b c d e => k1 a b c d (s'.trans e)) (fun a b c d e => k2 a b c d (s'.trans e)) (fun a b c d e => k3 a b c d (s'.trans e)) (fun a b c d e => k4 a b c d (s'.trans e))) k2 k3 k4
theorem ds_ret (h : DE K W te Γ P.rt) : DS K W (tRet te) Γ P := fun G H σ D w n _ k2 _ _ => h G H σ _ w n k2
theorem ds_retN (h : P.rt .none) : DS K W tRetN Γ P := fun G H σ D w n _ k2 _ _ => k2 .non .none G H (Same.refl G) w .non h
theorem ds_drop (h : DE K W te Γ fun _ => P.nx Γ) : DS K W (tDrop te) Γ P := fun G H σ D w n k1 _ _ _ => h G H σ _ w n fun v d G' H' s' w' _ q => k1 Γ σ G' H' s' w' (n.mono s') q
theorem ds_set {i : Nat} (h : DE K W te Γ fun d => P.nx (Γ.set i (.d d))) : DS K W (tAsg te (gName i)) Γ P := fun G H σ D w n k1 _ _ _ =>
  h G H σ _ w n fun v d G' H' s' w' hd q => k1 _ _ G' H' s' w' ((n.mono s').setD i hd) q
theorem ds_if (h : DT K W t Γ fun b => if b = true then DS K W ts Γ P else DS K W tu Γ P) : DS K W (tIfS t ts tu) Γ P := fun G H σ D w n k1 k2 k3 k4 =>
  h G H σ _ w n fun b G' H' s' w' r => by
    cases b with
    | true => exact r G' H' σ D w' (n.mono s') (fun a b c d e => k1 a b c d (s'.trans e)) (fun a b c d e => k2 a b c d (s'.trans e)) (fun a b c d e => k3 a b c d (s'.trans e)) (fun a b c d e => k4 a b c d (s'.trans e))
    | false => exact r G' H' σ D w' (n.mono s') (fun a b c d e => k1 a b c d (s'.trans e)) (fun a b c d e => k2 a b c d (s'.trans e)) (fun a b c d e => k3 a b c d (s'.trans e)) (fun a b c d e => k4 a b c d (s'.trans e))
theorem ds_aug {i : Nat} {f : Int → Int → Int} {a : Int} (e : Γ[i]? = some (.d (.int a))) (h : DE K W te Γ fun d => ∃ b, d = .int b ∧ P.nx (Γ.set i (.d (.int (f a b))))) : DS K W (tAug i te (ipI f)) Γ P := fun G H σ D w n k1 _ _ _ => by
  obtain ⟨v, ev, hv⟩ := n.get e
  refine ⟨v, ev, h G H σ _ w n fun u d G' H' s' w' hd ⟨b, eb, q⟩ => ?_⟩
  subst eb
  exact ⟨a, b, dp_int hv, dp_int hd, k1 _ _ G' H' s' w' ((n.mono s').setD i (.int _)) q⟩
theorem ds_par {i j : Nat} (h : DA K W tr Γ fun ss => ∃ a b, ss = [a, b] ∧ P.nx ((Γ.set i a).set j b)) : DS K W (tPar i j tr) Γ P := fun G H σ D w n k1 _ _ _ =>
  h G H σ _ w n fun vs ss G' H' s' w' ha ⟨a, b, e, q⟩ => by
    subst e
    cases ha with
    | cons h1 h2 =>
      cases h2 with
      | cons h3 h4 =>
        cases h4
        exact ⟨_, _, rfl, k1 _ _ G' H' s' w' (((n.mono s').set i h1).set j h3) q⟩
/-- targets -/
theorem ds_tgt {d : PyData} (h : DE K W te Γ fun d => DG K W g d Γ P.nx) : DS K W (tAsg te g) Γ P := fun G H σ D w n k1 _ _ _ =>
  h G H σ _ w n fun v d G' H' s' w' hd q => q G' H' σ v _ w' (n.mono s') hd fun a b c d e => k1 a b c d (s'.trans e)
theorem dg_name {i : Nat} {d : PyData} {R : List Slot → Prop} (q : R (Γ.set i (.d d))) : DG K W (gName i) d Γ R := fun G H σ v Q w n hd k => k _ _ G H (Same.refl G) w (n.setD i hd) q
def gsOf : List Nat → TGs
  | [] => gNil
  | i :: r => gCons (gName i) (gsOf r)
def setAll : List Nat → List PyData → List Slot → List Slot
  | i :: r, d :: ds, Γ => setAll r ds (Γ.set i (.d d))
  | _, _, Γ => Γ
theorem dgs_of : ∀ (l : List Nat) (ds : List PyData) (Γ : List Slot) (G H : Hp) (σ : L2.St) (vs : List V) (Q : L2.St → Hp → Prop), l.length = ds.length → En K G σ Γ → DpAll K G vs ds → (∀ σ', En K G σ' (setAll l ds Γ) → Q σ' H) → gsOf l vs σ H Q
  | [], [], Γ, G, H, σ, vs, Q, _, n, ha, k => by
    cases ha
    exact ⟨rfl, k σ n⟩
  | i :: l, d :: ds, Γ, G, H, σ, vs, Q, hl, n, ha, k => by
    cases ha with
    | cons h1 h2 => exact ⟨_, _, rfl, dgs_of l ds (Γ.set i (.d d)) G H _ _ Q (Nat.succ.inj hl) (n.setD i h1) h2 k⟩
  | [], _ :: _, _, _, _, _, _, _, hl, _, _, _ => nomatch hl
  | _ :: _, [], _, _, _, _, _, _, hl, _, _, _ => nomatch hl
theorem dg_tup (l : List Nat) {m : Nat} {d : PyData} {ds : List PyData} {R : List Slot → Prop} (e : d = .tuple ds) (hl : l.length = ds.length) (hm : ds.length = m) (q : R (setAll l ds Γ)) : DG K W (gTup K m (gsOf l)) d Γ R := fun G H σ v Q w n hd k => by
  subst e
  obtain ⟨a, xs, rfl, hs, hA⟩ := dp_tup hd
  exact ⟨a, xs, rfl, seqT w.ex hs, by rw [dpA_len _ _ hA]; exact hm, dgs_of l ds Γ G H σ xs _ hl n hA fun σ' n' => k _ _ G H (Same.refl G) w n' q⟩

/-! ### loops -/
/-- the body's posts in a loop -/
abbrev Po.loop (P : Po) (I : List Slot → Prop) : Po := { P with nx := I, ct := I, bk := P.nx }
theorem ds_forR1 {m : Int} {j : Nat} {tr : TA} (Iv : Nat → List Slot → Prop) (h : DA K W tr Γ fun ss => ∃ m : Int, dsOf ss = some [.int m] ∧ m < 2 ^ 62 ∧ -(2 ^ 62) ≤ m ∧ Iv 0 Γ ∧ (∀ (i : Nat) Γ', (i : Int) < m → Iv i Γ' → DG K W g (.int i) Γ' fun Γ2 => DS K W ts Γ2 (P.loop (Iv (i + 1)))) ∧ ∀ Γ', Iv m.toNat Γ' → P.nx Γ') :
    DS K W (tFor (iRng1 tr) g ts) Γ P := fun G H σ D w n k1 k2 k3 k4 =>
  h G H σ _ w n fun vs ss G0 H0 s0 w0 ha ⟨m, e, m1, m2, h0, hs, hd⟩ => by
    obtain ⟨v, ev, hv⟩ := one_of (args_ds ha e)
    cases dp_int hv
    refine ⟨m, ev, m2, m1, for_range (lo := 0) (n := m.toNat) (fun i σ' H' => ∃ Γ' G', Same G G' ∧ W.Ok G' H' ∧ En K G' σ' Γ' ∧ Iv i Γ') ⟨Γ, G0, s0, w0, n.mono s0, h0⟩ (fun i σ' H' hi p => ?_) fun σ' H' p => ?_⟩
    · obtain ⟨Γ', G', s', w', n', q⟩ := p
      have e0 : (0 : Int) + (i : Int) = (i : Int) := Int.zero_add _
      rw [e0]
      refine hs i Γ' (by omega) q G' H' σ' _ _ w' n' (.int _) fun Γ2 σ2 G2 H2 s2 w2 n2 q2 => ?_
      exact q2 G2 H2 σ2 _ w2 n2 (fun a b c d e f g h => ⟨a, c, (s'.trans s2).trans e, f, g, h⟩) (fun a b c d e => k2 a b c d ((s'.trans s2).trans e)) (fun a b c d e => k1 a b c d ((s'.trans s2).trans e)) (fun a b c d e f g h => ⟨a, c, (s'.trans s2).trans e, f, g, h⟩)
    · obtain ⟨Γ', G', s', w', n', q⟩ := p
      exact k1 Γ' σ' G' H' s' w' n' (hd Γ' q)
theorem ds_forL {tl : TE} (Iv : Nat → List Slot → Prop) (h : DE K W tl Γ fun d => ∃ ds, d = .list ds ∧ Iv 0 Γ ∧ (∀ (i : Nat) x Γ', ds[i]? = some x → Iv i Γ' → DG K W g x Γ' fun Γ2 => DS K W ts Γ2 (P.loop (Iv (i + 1)))) ∧ ∀ Γ', Iv ds.length Γ' → P.nx Γ') :
    DS K W (tFor (iList K tl) g ts) Γ P := fun G H σ D w n k1 k2 k3 k4 =>
  h G H σ _ w n fun v d G0 H0 s0 w0 hd0 ⟨ds, e, h0, hs, hd⟩ => by
    subst e
    obtain ⟨a, xs, rfl, hq, hA⟩ := dp_lst hd0
    refine ⟨a, rfl, ⟨xs, w0.ex.seq hq⟩, for_list (xs := xs) (fun i σ' H' => ∃ Γ' G', Same G0 G' ∧ W.Ok G' H' ∧ En K G' σ' Γ' ∧ Iv i Γ') ⟨Γ, G0, Same.refl _, w0, n.mono s0, h0⟩ (fun i σ' H' hi p => ?_) (fun i x σ' H' hx p => ?_) fun σ' H' p => ?_⟩
    · obtain ⟨Γ', G', s', w', n', q⟩ := p
      exact w'.ex.seq (s'.seq hq)
    · obtain ⟨Γ', G', s', w', n', q⟩ := p
      obtain ⟨dx, ex, hx⟩ := dpA_get' _ _ hA i x hx
      refine hs i dx Γ' ex q G' H' σ' x _ w' n' (dp_mono s' _ _ hx) fun Γ2 σ2 G2 H2 s2 w2 n2 q2 => ?_
      exact q2 G2 H2 σ2 _ w2 n2 (fun a b c d e f g h => ⟨a, c, (s'.trans s2).trans e, f, g, h⟩) (fun a b c d e => k2 a b c d (((s0.trans s').trans s2).trans e)) (fun a b c d e => k1 a b c d (((s0.trans s').trans s2).trans e)) (fun a b c d e f g h => ⟨a, c, (s'.trans s2).trans e, f, g, h⟩)
    · obtain ⟨Γ', G', s', w', n', q⟩ := p
      rw [dpA_len _ _ hA] at q
      exact k1 Γ' σ' G' H' (s0.trans s') w' n' (hd Γ' q)
theorem ds_forT {tl : TE} (Iv : Nat → List Slot → Prop) (h : DE K W tl Γ fun d => ∃ ds, d = .tuple ds ∧ Iv 0 Γ ∧ (∀ (i : Nat) x Γ', ds[i]? = some x → Iv i Γ' → DG K W g x Γ' fun Γ2 => DS K W ts Γ2 (P.loop (Iv (i + 1)))) ∧ ∀ Γ', Iv ds.length Γ' → P.nx Γ') :
    DS K W (tFor (iTup K tl) g ts) Γ P := fun G H σ D w n k1 k2 k3 k4 =>
  h G H σ _ w n fun v d G0 H0 s0 w0 hd0 ⟨ds, e, h0, hs, hd⟩ => by
    subst e
    obtain ⟨a, xs, rfl, hq, hA⟩ := dp_tup hd0
    refine ⟨a, rfl, ⟨xs, seqT w0.ex hq⟩, for_tup (xs := xs) (fun i σ' H' => ∃ Γ' G', Same G0 G' ∧ W.Ok G' H' ∧ En K G' σ' Γ' ∧ Iv i Γ') ⟨Γ, G0, Same.refl _, w0, n.mono s0, h0⟩ (fun i σ' H' hi p => ?_) (fun i x σ' H' hx p => ?_) fun σ' H' p => ?_⟩
    · obtain ⟨Γ', G', s', w', n', q⟩ := p
      exact seqT w'.ex (seqT s' hq)
    · obtain ⟨Γ', G', s', w', n', q⟩ := p
      obtain ⟨dx, ex, hx⟩ := dpA_get' _ _ hA i x hx
      refine hs i dx Γ' ex q G' H' σ' x _ w' n' (dp_mono s' _ _ hx) fun Γ2 σ2 G2 H2 s2 w2 n2 q2 => ?_
      exact q2 G2 H2 σ2 _ w2 n2 (fun a b c d e f g h => ⟨a, c, (s'.trans s2).trans e, f, g, h⟩) (fun a b c d e => k2 a b c d (((s0.trans s').trans s2).trans e)) (fun a b c d e => k1 a b c d (((s0.trans s').trans s2).trans e)) (fun a b c d e f g h => ⟨a, c, (s'.trans s2).trans e, f, g, h⟩)
    · obtain ⟨Γ', G', s', w', n', q⟩ := p
      rw [dpA_len _ _ hA] at q
      exact k1 Γ' σ' G' H' (s0.trans s') w' n' (hd Γ' q)
theorem ds_while (Iv : Nat → List Slot → Prop) (m0 : Nat) (h0 : Iv m0 Γ) (hs : ∀ m Γ', Iv m Γ' → DT K W t Γ' fun b => if b = true then DS K W ts Γ' (P.loop fun Γ2 => ∃ m', m' < m ∧ Iv m' Γ2) else P.nx Γ') : DS K W (tWhile t ts) Γ P := fun G H σ D w n k1 k2 k3 k4 => by
  refine ⟨fun m σ' H' => ∃ Γ' G', Same G G' ∧ W.Ok G' H' ∧ En K G' σ' Γ' ∧ Iv m Γ', ⟨m0, Γ, G, Same.refl G, w, n, h0⟩, fun m σ' H' p => ?_⟩
  obtain ⟨Γ', G', s', w', n', q⟩ := p
  refine hs m Γ' q G' H' σ' _ w' n' fun b G2 H2 s2 w2 r => ?_
  cases b with
  | false => exact k1 Γ' σ' G2 H2 (s'.trans s2) w2 (n'.mono s2) r
  | true =>
    refine ⟨fun σ3 H3 => ∃ Γ3 G3, Same G G3 ∧ W.Ok G3 H3 ∧ En K G3 σ3 Γ3 ∧ ∃ m', m' < m ∧ Iv m' Γ3, fun σ3 H3 p => ?_, ?_⟩
    · obtain ⟨Γ3, G3, s3, w3, n3, m', hm, q3⟩ := p
      exact ⟨m', hm, Γ3, G3, s3, w3, n3, q3⟩
    · exact r G2 H2 σ' _ w2 (n'.mono s2) (fun a b c d e f g h => ⟨a, c, (s'.trans s2).trans e, f, g, h⟩) (fun a b c d e => k2 a b c d ((s'.trans s2).trans e)) (fun a b c d e => k1 a b c d ((s'.trans s2).trans e)) (fun a b c d e f g h => ⟨a, c, (s'.trans s2).trans e, f, g, h⟩)

/-! ### comprehensions: what each turn may give -/
/-- turn i of the items ds: kept (P i y) or left out (N i) -/
inductive Gv (P : Nat → PyData → Prop) (N : Nat → Prop) : Nat → List PyData → Prop
  | nil : Gv P N 0 []
  | yes {n : Nat} {ys : List PyData} {y : PyData} : Gv P N n ys → P n y → Gv P N (n + 1) (ys ++ [y])
  | no {n : Nat} {ys : List PyData} : Gv P N n ys → N n → Gv P N (n + 1) ys
theorem Gv.len {P : Nat → PyData → Prop} {N : Nat → Prop} {n : Nat} {ys : List PyData} (h : Gv P N n ys) : ys.length ≤ n := by
  induction h with
  | nil => exact Nat.le_refl _
  | yes _ _ ih => rw [List.length_append, List.length_singleton]; omega
  | no _ _ ih => omega
theorem Gv.map {P : Nat → PyData → Prop} {f : Nat → PyData} {n : Nat} {ys : List PyData} (h : Gv P (fun _ => False) n ys) (e : ∀ i y, P i y → y = f i) : ys = (List.range n).map f := by
  induction h with
  | nil => rfl
  | yes _ p ih => rw [List.range_succ, List.map_append, ih, e _ _ p]; rfl
  | no _ p _ => exact p.elim
theorem Gv.mapD {P : Nat → PyData → Prop} {ds : List PyData} {f : PyData → PyData} {ys : List PyData} (h : Gv P (fun _ => False) ds.length ys) (e : ∀ i y, P i y → ∃ x, ds[i]? = some x ∧ y = f x) : ys = ds.map f := by
  have h1 : ∀ n ys, Gv P (fun _ => False) n ys → n ≤ ds.length → ys = (ds.take n).map f := by
    intro n ys h
    induction h with
    | nil => intro _; rfl
    | no _ p _ => exact p.elim
    | @yes n ys y _ p ih =>
      intro hn
      obtain ⟨x, ex, ey⟩ := e _ _ p
      rw [ih (by omega), ey, List.take_add_one, ex, List.map_append]
      rfl
  have := h1 _ _ h (Nat.le_refl _)
  rw [List.take_of_length_le (Nat.le_refl _)] at this
  exact this
theorem Gv.each {P : Nat → PyData → Prop} {n : Nat} {ys : List PyData} (h : Gv P (fun _ => False) n ys) : ys.length = n ∧ ∀ i y, ys[i]? = some y → P i y := by
  induction h with
  | nil => exact ⟨rfl, fun i y e => by simp at e⟩
  | no _ p _ => exact p.elim
  | @yes n ys y _ p ih =>
    obtain ⟨l, q⟩ := ih
    refine ⟨by rw [List.length_append, l]; rfl, fun i z e => ?_⟩
    by_cases hi : i < ys.length
    · rw [List.getElem?_append_left hi] at e
      exact q i z e
    · rw [List.getElem?_append_right (by omega)] at e
      have h0 : i - ys.length = 0 := by
        cases hk : i - ys.length with
        | zero => rfl
        | succ k => rw [hk] at e; simp at e
      rw [h0] at e
      have ez := Option.some.inj e
      have ei : i = n := by omega
      subst ez
      subst ei
      exact p
/-- the turn's data: D is the list that grows, data no more than its items -/
structure CwD (K : PySem.W.Frag) (W : Own) (σ : L2.St) (Γ : List Slot) (G0 : Hp) (D : Addr) (X : List PyData → Prop) (H : Hp) : Prop where
  ex : ∃ (G : Hp) (xs : List V) (ds : List PyData), Same G0 G ∧ G D = none ∧ ¬ W.us D ∧ W.Ok G H ∧ En K G σ Γ ∧ H D = some (.lst xs) ∧ DpAll K G xs ds ∧ X ds
/-- the list that grows, owned for the turn -/
def Own.cell (W : Own) (D : Addr) (xs : List V) : Own := ⟨fun a => W.us a ∨ a = D, fun G H => W.J G H ∧ H D = some (.lst xs), fun {G G' H H'} e k j => ⟨W.loc e (fun a ha => k a (.inl ha)) j.1, by rw [← k D (.inr rfl)]; exact j.2⟩⟩
theorem cell_in {W : Own} {D : Addr} {xs : List V} {G H : Hp} (w : W.Ok G H) (g : G D = none) (h : H D = some (.lst xs)) : (W.cell D xs).Ok G H :=
  ⟨w.ex, fun a ha => by
    rcases ha with ha | ha
    · exact w.own a ha
    · subst ha; exact ⟨g, _, h⟩, w.j, h⟩
theorem cell_out {W : Own} {D : Addr} {xs : List V} {G H : Hp} (w : (W.cell D xs).Ok G H) : W.Ok G H ∧ G D = none ∧ H D = some (.lst xs) :=
  ⟨⟨w.ex, fun a ha => w.own a (.inl ha), w.j.1⟩, (w.own D (.inr rfl)).1, w.j.2⟩
/-- what an ownership may become while a list grows -/
def ShOk (W : Own) (Sh : Own → Prop) : Prop := ∀ (D : Addr) (xs : List V), ¬ W.us D → ∃ W', Sh W' ∧ (∀ G H, W.Ok G H → G D = none → ¬ W.us D → H D = some (.lst xs) → W'.Ok G H) ∧ ∀ G H, W'.Ok G H → W.Ok G H ∧ G D = none ∧ H D = some (.lst xs)
theorem sh_any {W : Own} : ShOk W (fun _ => True) := fun D xs _ => ⟨W.cell D xs, trivial, fun G H w g _ h => cell_in w g h, fun G H w => cell_out w⟩
/-- once grown, the list is data -/
theorem Own.Ok.freeze {W : Own} {G H : Hp} {D : Addr} {o : HO} (w : W.Ok G H) (g : G D = none) (u : ¬ W.us D) (h : H D = some o) : W.Ok (upd G D o) H := by
  refine ⟨fun a x e => ?_, fun a ha => ?_, W.loc (same_new g) (fun _ _ => rfl) w.j⟩
  · by_cases hp : a = D
    · subst hp
      rw [upd_same] at e
      cases e
      exact h
    · rw [upd_ne hp] at e
      exact w.ex a x e
  · have hp : a ≠ D := fun z => u (z ▸ ha)
    rw [upd_ne hp]
    exact w.own a ha
theorem lc_turn {Sh : Own → Prop} (hSh : ShOk W Sh) {σ σ2 : L2.St} {Γ Γ2 : List Slot} {G0 G : Hp} {D : Addr} {P : Nat → PyData → Prop} {N : Nat → Prop} {i : Nat} {H : Hp} {xs : List V} {ds : List PyData} (s0 : Same G0 G) (gD : G D = none) (uD : ¬ W.us D) (w : W.Ok G H) (n : En K G σ Γ) (hD : H D = some (.lst xs)) (hA : DpAll K G xs ds) (hX : Gv P N i ds)
    (n2 : En K G σ2 Γ2) (hi : i < 100000) (h : ∀ W', Sh W' → DT K W' t Γ2 fun b => if b = true then DE K W' te Γ2 (P i) else N i) :
    t σ2 H fun b H3 => if b = true then te σ2 H3 fun y H4 => ∃ acc, H4 D = some (.lst acc) ∧ acc.length < sizeLine ∧ CwD K W σ Γ G0 D (Gv P N (i + 1)) (upd H4 D (.lst (acc ++ [y]))) else CwD K W σ Γ G0 D (Gv P N (i + 1)) H3 := by
  obtain ⟨W', hW, hin, hout⟩ := hSh D xs uD
  refine h W' hW G H σ2 _ (hin G H w gD uD hD) n2 fun b G3 H3 s3 w3 r => ?_
  cases b with
  | false =>
    obtain ⟨w4, g4, h4⟩ := hout G3 H3 w3
    exact ⟨⟨G3, xs, ds, s0.trans s3, g4, uD, w4, n.mono s3, h4, dpA_mono s3 _ _ hA, .no hX r⟩⟩
  | true =>
    refine r G3 H3 σ2 _ w3 (n2.mono s3) fun y d G4 H4 s4 w4 hy p => ?_
    obtain ⟨w5, g5, h5⟩ := hout G4 H4 w4
    have s34 := s3.trans s4
    refine ⟨xs, h5, ?_, ⟨G4, xs ++ [y], ds ++ [d], s0.trans s34, g5, uD, w5.side g5 uD, n.mono s34, upd_same, dpA_app _ _ _ _ (dpA_mono s34 _ _ hA) (.cons hy .nil), .yes hX p⟩⟩
    rw [dpA_len _ _ hA]
    exact Nat.lt_of_le_of_lt hX.len (Nat.lt_of_lt_of_le hi (by decide))
/-- the slots of a comprehension's own names -/
theorem wipe_get (σ : L2.St) : ∀ (vs : List Nat) (i : Nat), (wipe σ vs)[i]? = if i ∈ vs ∧ i < σ.length then some none else σ[i]?
  | [], i => by rw [if_neg (by simp)]; rfl
  | v :: vs, i => by
    show ((wipe σ vs).set v none)[i]? = _
    by_cases e : v = i
    · subst e
      by_cases hl : v < σ.length
      · rw [List.getElem?_set_self (by rw [wipe_length]; exact hl), if_pos ⟨by simp, hl⟩]
      · rw [if_neg (fun z => hl z.2), List.getElem?_eq_none (by rw [List.length_set, wipe_length]; omega), List.getElem?_eq_none (by omega)]
    · rw [List.getElem?_set_ne e, wipe_get σ vs i]
      have : (i ∈ v :: vs) ↔ i ∈ vs := by
        rw [List.mem_cons]
        exact ⟨fun z => z.elim (fun q => absurd q.symm e) id, .inr⟩
      by_cases hi : i ∈ vs ∧ i < σ.length
      · rw [if_pos hi, if_pos ⟨this.mpr hi.1, hi.2⟩]
      · rw [if_neg hi, if_neg fun z => hi ⟨this.mp z.1, z.2⟩]
theorem wipe_set {σ : L2.St} {vs : List Nat} {j : Nat} (x : Option V) (h : j ∈ vs) : wipe (σ.set j x) vs = wipe σ vs := by
  apply List.ext_getElem?
  intro i
  rw [wipe_get, wipe_get, List.length_set]
  by_cases hi : i ∈ vs ∧ i < σ.length
  · rw [if_pos hi, if_pos hi]
  · rw [if_neg hi, if_neg hi]
    by_cases e : j = i
    · subst e
      have hl : ¬ j < σ.length := fun z => hi ⟨h, z⟩
      rw [List.getElem?_eq_none (by rw [List.length_set]; omega), List.getElem?_eq_none (by omega)]
    · rw [List.getElem?_set_ne e]
theorem wipe_wipe {σ : L2.St} {vs : List Nat} : wipe (wipe σ vs) vs = wipe σ vs := by
  apply List.ext_getElem?
  intro i
  rw [wipe_get, wipe_length, wipe_get]
  by_cases hi : i ∈ vs ∧ i < σ.length
  · rw [if_pos hi, if_pos hi]
  · rw [if_neg hi, if_neg hi]
/-- a comprehension's targets -/
def CG (K : PySem.W.Frag) (g : TG) (vs : List Nat) (d : PyData) (Γ Γ2 : List Slot) : Prop := ∀ (G H : Hp) (σ : L2.St) (v : V) (Q : L2.St → Hp → Prop), Same G H → En K G σ Γ → Dp K G v d → (∀ σ2, En K G σ2 Γ2 → wipe σ2 vs = wipe σ vs → Q σ2 H) → g v σ H Q
theorem cg_name {j : Nat} {vs : List Nat} {d : PyData} (h : j ∈ vs) : CG K (gName j) vs d Γ (Γ.set j (.d d)) := fun G H σ v Q _ n hd k => k _ (n.setD j hd) (wipe_set _ h)
theorem gsOf_wipe (vs : List Nat) : ∀ (l : List Nat) (ds : List PyData) (Γ : List Slot) (G H : Hp) (σ : L2.St) (us : List V) (Q : L2.St → Hp → Prop), (∀ j ∈ l, j ∈ vs) → l.length = ds.length → En K G σ Γ → DpAll K G us ds → (∀ σ', En K G σ' (setAll l ds Γ) → wipe σ' vs = wipe σ vs → Q σ' H) → gsOf l us σ H Q
  | [], [], Γ, G, H, σ, us, Q, _, _, n, ha, k => by
    cases ha
    exact ⟨rfl, k σ n rfl⟩
  | i :: l, d :: ds, Γ, G, H, σ, us, Q, hv, hl, n, ha, k => by
    cases ha with
    | cons h1 h2 => exact ⟨_, _, rfl, gsOf_wipe vs l ds (Γ.set i (.d d)) G H _ _ Q (fun j hj => hv j (List.mem_cons_of_mem _ hj)) (Nat.succ.inj hl) (n.setD i h1) h2 fun σ' n' e => k σ' n' (e.trans (wipe_set _ (hv i List.mem_cons_self)))⟩
  | [], _ :: _, _, _, _, _, _, _, _, hl, _, _, _ => nomatch hl
  | _ :: _, [], _, _, _, _, _, _, _, hl, _, _, _ => nomatch hl
theorem cg_tup (l : List Nat) {m : Nat} {vs : List Nat} {ds : List PyData} (hv : ∀ j ∈ l, j ∈ vs) (hl : l.length = ds.length) (hm : ds.length = m) : CG K (gTup K m (gsOf l)) vs (.tuple ds) Γ (setAll l ds Γ) := fun G H σ v Q s n hd k => by
  obtain ⟨a, xs, rfl, hs, hA⟩ := dp_tup hd
  exact ⟨a, xs, rfl, seqT s hs, by rw [dpA_len _ _ hA]; exact hm, gsOf_wipe vs l ds Γ G H σ xs _ hv hl n hA k⟩
theorem wipe_eq {σ σ2 : L2.St} {vs : List Nat} (h : wipe σ2 vs = wipe (wipe σ vs) vs) : wipe σ2 vs = wipe σ vs := h.trans wipe_wipe
/-- over a list -/
theorem de_lcL {tl : TE} {vs : List Nat} {g : TG} {Sh : Own → Prop} (hSh : ShOk W Sh) (h : DE K W tl Γ fun d => ∃ ds, d = .list ds ∧ ds.length ≤ 10000 ∧ ∃ (P : Nat → PyData → Prop) (N : Nat → Prop),
      (∀ (i : Nat) x, ds[i]? = some x → ∃ Γ2, CG K g vs x (wipeS Γ vs) Γ2 ∧ ∀ W', Sh W' → DT K W' t Γ2 fun b => if b = true then DE K W' te Γ2 (P i) else N i) ∧ ∀ ys, Gv P N ds.length ys → R (.list ys)) :
    DE K W (tLc (iList K tl) g t te vs) Γ R := fun G H σ Q w n k => by
  refine h G H σ _ w n fun v d G0 H0 s0 w0 hd0 r => ?_
  obtain ⟨ds, e, hz, P, N, hs, hd⟩ := r
  subst e
  obtain ⟨a, xs, rfl, hq, hA⟩ := dp_lst hd0
  refine ⟨a, rfl, ⟨xs, w0.ex.seq hq⟩, fun D hD => ?_⟩
  have gD : G0 D = none := w0.ex.free hD
  have uD := w0.nown hD
  refine lc_list (xs := xs) (fun i H' => CwD K W σ Γ G0 D (Gv P N i) H') ⟨⟨G0, [], [], Same.refl _, gD, uD, w0.side gD uD, n.mono s0, upd_same, .nil, .nil⟩⟩ (fun i H' _ p => ?_) (fun i x H' hx p => ?_) fun H' p => ?_
  · obtain ⟨⟨G1, ys, es, s1, g1, u1, w1, n1, h1, a1, x1⟩⟩ := p
    exact w1.ex.seq (s1.seq hq)
  · obtain ⟨⟨G1, ys, es, s1, g1, u1, w1, n1, h1, a1, x1⟩⟩ := p
    obtain ⟨dx, ex, hx⟩ := dpA_get' _ _ hA i x hx
    obtain ⟨Γ2, cg, hb⟩ := hs i dx ex
    refine cg G1 H' (wipe σ vs) x _ w1.ex (n1.wipe vs) (dp_mono s1 _ _ hx) fun σ2 n2 e2 => ⟨wipe_eq e2, ?_⟩
    exact lc_turn hSh s1 g1 u1 w1 n1 h1 a1 x1 n2 (by have := (List.getElem?_eq_some_iff.mp ex).1; omega) hb
  · obtain ⟨⟨G1, ys, es, s1, g1, u1, w1, n1, h1, a1, x1⟩⟩ := p
    rw [dpA_len _ _ hA] at x1
    exact k _ _ (upd G1 D (.lst ys)) H' ((s0.trans s1).trans (same_new g1)) (w1.freeze g1 u1 h1) (.lst (SqL.of upd_same) (dpA_mono (same_new g1) _ _ a1)) (hd es x1)
/-- over a tuple -/
theorem de_lcT {tl : TE} {vs : List Nat} {g : TG} {Sh : Own → Prop} (hSh : ShOk W Sh) (h : DE K W tl Γ fun d => ∃ ds, d = .tuple ds ∧ ds.length ≤ 10000 ∧ ∃ (P : Nat → PyData → Prop) (N : Nat → Prop),
      (∀ (i : Nat) x, ds[i]? = some x → ∃ Γ2, CG K g vs x (wipeS Γ vs) Γ2 ∧ ∀ W', Sh W' → DT K W' t Γ2 fun b => if b = true then DE K W' te Γ2 (P i) else N i) ∧ ∀ ys, Gv P N ds.length ys → R (.list ys)) :
    DE K W (tLc (iTup K tl) g t te vs) Γ R := fun G H σ Q w n k => by
  refine h G H σ _ w n fun v d G0 H0 s0 w0 hd0 r => ?_
  obtain ⟨ds, e, hz, P, N, hs, hd⟩ := r
  subst e
  obtain ⟨a, xs, rfl, hq, hA⟩ := dp_tup hd0
  refine ⟨a, rfl, ⟨xs, seqT w0.ex hq⟩, fun D hD => ?_⟩
  have gD : G0 D = none := w0.ex.free hD
  have uD := w0.nown hD
  refine lc_tup (xs := xs) (fun i H' => CwD K W σ Γ G0 D (Gv P N i) H') ⟨⟨G0, [], [], Same.refl _, gD, uD, w0.side gD uD, n.mono s0, upd_same, .nil, .nil⟩⟩ (fun i H' _ p => ?_) (fun i x H' hx p => ?_) fun H' p => ?_
  · obtain ⟨⟨G1, ys, es, s1, g1, u1, w1, n1, h1, a1, x1⟩⟩ := p
    exact seqT w1.ex (seqT s1 hq)
  · obtain ⟨⟨G1, ys, es, s1, g1, u1, w1, n1, h1, a1, x1⟩⟩ := p
    obtain ⟨dx, ex, hx⟩ := dpA_get' _ _ hA i x hx
    obtain ⟨Γ2, cg, hb⟩ := hs i dx ex
    refine cg G1 H' (wipe σ vs) x _ w1.ex (n1.wipe vs) (dp_mono s1 _ _ hx) fun σ2 n2 e2 => ⟨wipe_eq e2, ?_⟩
    exact lc_turn hSh s1 g1 u1 w1 n1 h1 a1 x1 n2 (by have := (List.getElem?_eq_some_iff.mp ex).1; omega) hb
  · obtain ⟨⟨G1, ys, es, s1, g1, u1, w1, n1, h1, a1, x1⟩⟩ := p
    rw [dpA_len _ _ hA] at x1
    exact k _ _ (upd G1 D (.lst ys)) H' ((s0.trans s1).trans (same_new g1)) (w1.freeze g1 u1 h1) (.lst (SqL.of upd_same) (dpA_mono (same_new g1) _ _ a1)) (hd es x1)
/-- over range(m) -/
theorem de_lcR {vs : List Nat} {g : TG} {Sh : Own → Prop} (hSh : ShOk W Sh) (h : DA K W tr Γ fun ss => ∃ m : Int, dsOf ss = some [.int m] ∧ m ≤ 10000 ∧ -10000 ≤ m ∧ ∃ (P : Nat → PyData → Prop) (N : Nat → Prop),
      (∀ (i : Nat), (i : Int) < m → ∃ Γ2, CG K g vs (.int i) (wipeS Γ vs) Γ2 ∧ ∀ W', Sh W' → DT K W' t Γ2 fun b => if b = true then DE K W' te Γ2 (P i) else N i) ∧ ∀ ys, Gv P N m.toNat ys → R (.list ys)) :
    DE K W (tLc (iRng1 tr) g t te vs) Γ R := fun G H σ Q w n k => by
  refine h G H σ _ w n fun us ss G0 H0 s0 w0 ha r => ?_
  obtain ⟨m, e, m1, m2, P, N, hs, hd⟩ := r
  obtain ⟨v, ev, hv⟩ := one_of (args_ds ha e)
  cases dp_int hv
  refine ⟨m, ev, by omega, by omega, fun D hD => ?_⟩
  have gD : G0 D = none := w0.ex.free hD
  have uD := w0.nown hD
  refine lc_range (lo := 0) (n := m.toNat) (fun i H' => CwD K W σ Γ G0 D (Gv P N i) H') ⟨⟨G0, [], [], Same.refl _, gD, uD, w0.side gD uD, n.mono s0, upd_same, .nil, .nil⟩⟩ (fun i H' hi p => ?_) fun H' p => ?_
  · obtain ⟨⟨G1, ys, es, s1, g1, u1, w1, n1, h1, a1, x1⟩⟩ := p
    obtain ⟨Γ2, cg, hb⟩ := hs i (by omega)
    have e0 : (0 : Int) + (i : Int) = (i : Int) := Int.zero_add _
    rw [e0]
    refine cg G1 H' (wipe σ vs) _ _ w1.ex (n1.wipe vs) (.int _) fun σ2 n2 e2 => ⟨wipe_eq e2, ?_⟩
    exact lc_turn hSh s1 g1 u1 w1 n1 h1 a1 x1 n2 (by omega) hb
  · obtain ⟨⟨G1, ys, es, s1, g1, u1, w1, n1, h1, a1, x1⟩⟩ := p
    exact k _ _ (upd G1 D (.lst ys)) H' ((s0.trans s1).trans (same_new g1)) (w1.freeze g1 u1 h1) (.lst (SqL.of upd_same) (dpA_mono (same_new g1) _ _ a1)) (hd es x1)
theorem dt_yes {R : Bool → Prop} (q : R true) : DT K W tYes Γ R := fun G H σ Q w n k => k true G H (Same.refl G) w q
end

/-! ### a def -/
section
variable {P : Program} {w : World} {K : PySem.W.Frag} {mg : Str → Option Value} {base : Heap}
theorem en_start {G : Hp} {N : List Str} {vs : List V} {ss : List Slot} (h : Args K G vs ss) : En K G (L2.start N vs) (ss ++ List.replicate (N.length - ss.length) .no) := by
  have hl : vs.length = ss.length := Paired.length h
  refine ⟨by unfold L2.start; rw [List.length_append, List.length_append, List.length_map, List.length_replicate, List.length_replicate, hl], fun i s e => ?_⟩
  unfold L2.start
  by_cases hi : i < ss.length
  · rw [List.getElem?_append_left hi] at e
    rw [List.getElem?_append_left (by rw [List.length_map]; omega), List.getElem?_map]
    clear hl
    induction h generalizing i with
    | nil => simp at e
    | @cons v s' vs' ss' hv ht ih =>
      cases i with
      | zero =>
        have := Option.some.inj e
        subst this
        exact ⟨some v, rfl, hv⟩
      | succ i => exact ih i (by simpa using e) (by simpa using hi)
  · rw [List.getElem?_append_right (by omega)] at e
    have hr : i - ss.length < N.length - ss.length := by
      have := (List.getElem?_eq_some_iff.mp e).1
      rw [List.length_replicate] at this
      exact this
    rw [List.getElem?_replicate, if_pos hr] at e
    have := Option.some.inj e
    subst this
    refine ⟨none, ?_, trivial⟩
    rw [List.getElem?_append_right (by rw [List.length_map]; omega), List.length_map, hl, List.getElem?_replicate, if_pos hr]
theorem args_of {G : Hp} : ∀ {ds : List PyData} {vs : List V}, DpAll K G vs ds → Args K G vs (ds.map Slot.d)
  | [], _, h => by cases h; exact .nil
  | d :: ds, _, h => by
    cases h with
    | cons h1 h2 => exact .cons ⟨_, rfl, h1⟩ (args_of h2)
/-- the body's posts: what the def returns -/
abbrev rets (R : PyData → Prop) : Po := ⟨fun _ => R .none, R, fun _ => False, fun _ => False⟩
theorem DS.run {t : TS} {W : Own} {Γ : List Slot} {R : PyData → Prop} {G H : Hp} {σ : L2.St} {Q : VK} (h : DS K W t Γ (rets R)) (wk : W.Ok G H) (n : En K G σ Γ) (k : ∀ v d G' H', Same G G' → W.Ok G' H' → Dp K G' v d → R d → Q v H') :
    t { nx := fun _ H' => Q .non H', rt := Q } σ H :=
  h G H σ _ wk n (fun Γ' σ' G' H' s w' _ r => k .non .none G' H' s w' .non r) k (fun _ _ _ _ _ _ _ z => z.elim) (fun _ _ _ _ _ _ _ z => z.elim)
theorem okD {x qual : Str} {st : Stmt} {f : Addr} {fd : FuncData} {N ps : List Str} {k : Nat} {S : List PyData → (PyData → Prop) → Prop} (F : Fun K x qual st f fd) (Sc : FnScope N ps (defScope st)) (hl : ∀ ds R, S ds R → ds.length = ps.length)
    (hb : ∀ (cdv : Value) (A : Around) (outer : List Env) (s : Shared) (H : Hp) (E : XK), Room k (A.deeper (envOfC qual (defScope st) s.heap.objs.size f cdv)) →
      ∃ t, PSs (cxOf CX0 P w K mg base N qual (defScope st) f cdv A outer s H E).nox (defBody st) t ∧ ∀ W ds R, S ds R → DS K W t (ds.map Slot.d ++ List.replicate (N.length - ps.length) .no) (rets R)) : FnOk P w K mg base CX0 (k + 1) f fd ps (spD K S) := by
  refine F.ok Sc (fun vs H Q E h => ?_) (fun cdv A outer s H vs Q E hr h => ?_)
  · obtain ⟨W, G, ds, R, _, hA, hs, _⟩ := h
    rw [dpA_len _ _ hA]
    exact hl ds R hs
  · obtain ⟨W, G, ds, R, wk, hA, hs, kk⟩ := h
    obtain ⟨t, ht, hd⟩ := hb cdv A outer s H E hr
    refine ⟨t, ht, ?_⟩
    have e := en_start (N := N) (args_of hA)
    rw [List.length_map, hl ds R hs] at e
    exact (hd W ds R hs).run wk e kk
end
end DL
set_option Elab.async false
set_option linter.all false
set_option maxRecDepth 100000
set_option maxHeartbeats 2000000
/-! DLay3: callees, tables of the top, the urn, lists that stay one's own. -/
namespace DL
open PySem PySem.Spec PyProof.Rows L2

theorem iteB {b : Bool} {A B : Prop} (h : b = true) (a : A) : if b = true then A else B := by rw [if_pos h]; exact a
theorem iteN {b : Bool} {A B : Prop} (h : b = false) (a : B) : if b = true then A else B := by rw [if_neg (by rw [h]; exact Bool.false_ne_true)]; exact a
/-! ### callees -/
def Callee (P : Program) (w : World) (K : PySem.W.Frag) (mg : Str → Option Value) (base : Heap) (k : Nat) (x : Str) (ps : List Str) (sp : Sp) : Prop :=
  ∃ f fd, FnOk P w K mg base CX0 k f fd ps sp ∧ Binds K fd ps [] ∧ PySem.W.keepIn K (.ref f) = true ∧ mg x = some (.ref f)
/-- where a def of the top stands -/
structure Df (K : PySem.W.Frag) (mg : Str → Option Value) (x : Str) (st : Stmt) (ps : List Str) : Prop where
  ex : ∃ f fd, Fun K x x st f fd ∧ Binds K fd ps [] ∧ mg x = some (.ref f)
theorem Callee.mono {P : Program} {w : World} {K : PySem.W.Frag} {mg : Str → Option Value} {base : Heap} {j k : Nat} {x : Str} {ps : List Str} {sp : Sp} (C : Callee P w K mg base j x ps sp) (h : j ≤ k) : Callee P w K mg base k x ps sp := by
  obtain ⟨f, fd, F, b, kp, m⟩ := C
  exact ⟨f, fd, F.mono h, b, kp, m⟩
theorem Callee.imp {P : Program} {w : World} {K : PySem.W.Frag} {mg : Str → Option Value} {base : Heap} {k : Nat} {x : Str} {ps : List Str} {sp sp' : Sp} (C : Callee P w K mg base k x ps sp) (h : ∀ vs H Q E, sp' vs H Q E → sp vs H Q E) : Callee P w K mg base k x ps sp' := by
  obtain ⟨f, fd, F, b, kp, m⟩ := C
  exact ⟨f, fd, F.imp h, b, kp, m⟩
theorem Df.callee {P : Program} {w : World} {K : PySem.W.Frag} {mg : Str → Option Value} {base : Heap} {k : Nat} {x : Str} {st : Stmt} {ps : List Str} {sp : Sp} (D : Df K mg x st ps) (h : ∀ f fd, Fun K x x st f fd → FnOk P w K mg base CX0 k f fd ps sp) : Callee P w K mg base k x ps sp := by
  obtain ⟨f, fd, F, b, m⟩ := D.ex
  exact ⟨f, fd, h f fd F, b, F.kp, m⟩
theorem pe_cl {X : Cx} {k : Nat} {x : Str} {ps : List Str} {sp : Sp} {p pos : Pos} {e : Expr} {es : List Expr} {t : TA} (C : Callee X.prog X.w X.K X.mg X.base k x ps sp) (hr : Room k X.A) (hg : Gl X x) (ha : PA X (e :: es) t)
    (hdb : (x == ("__debug__" : Str)) = false := by decide) (he : starEach (e :: es) X.env = (false, eval e X.env) :: starEach es X.env := by rfl) (hpl : (backTo pos (starEach es X.env)).any (·.1) = false := by rfl) :
    PE X (.Call (.Name x p) (e :: es) [] pos) (tCall sp [] E0 t) := by
  obtain ⟨f, fd, F, b, kp, m⟩ := C
  exact pe_call F hr hg m kp b .nil pass0 ha (by first | exact hdb | assumption) (by first | exact he | assumption) (by first | exact hpl | assumption)
/-- a constant of the top -/
def GlK (mg : Str → Option Value) (x : Str) (v : V) : Prop := ∃ u, mg x = some u ∧ RelV v u
theorem pe_gk {X : Cx} {x : Str} {v : V} {pos : Pos} (h : GlK X.mg x v) (hg : Gl X x) (hd : (x == ("__debug__" : Str)) = false := by decide) : PE X (.Name x pos) (tC v) := by
  obtain ⟨u, m, r⟩ := h
  exact pe_glob hg m r hd
theorem units65 {k : Nat} {A : Around} (r : Room k A) : A.units + 65 < cLine := by
  have := r.un
  omega

/-! ### in, over flat data -/
def vD : PyData → V
  | .none => .non
  | .bool b => .bl b
  | .int i => .int i
  | .str x => .str x
  | _ => .non
theorem dp_vD {K : PySem.W.Frag} {G : Hp} {v : V} {d : PyData} (h : Dp K G v d) (f : fl d = true) : v = vD d := by
  cases h <;> first | rfl | cases f
theorem dpA_vD {K : PySem.W.Frag} {G : Hp} : ∀ {ds : List PyData} {vs : List V}, DpAll K G vs ds → ds.all fl = true → vs = ds.map vD
  | [], _, h, _ => by cases h; rfl
  | d :: ds, _, h, f => by
    cases h with
    | cons h1 h2 =>
      rw [List.all_cons, Bool.and_eq_true] at f
      rw [dp_vD h1 f.1, dpA_vD h2 f.2]
      rfl
theorem flat_vD : ∀ d : PyData, flatV (vD d) = true := fun d => by cases d <;> rfl
theorem flats_vD (ds : List PyData) : (ds.map vD).all flatV = true := by
  rw [List.all_map]
  exact List.all_eq_true.mpr fun d _ => flat_vD d
section
variable {K : PySem.W.Frag} {W : Own} {Γ : List Slot} {R : PyData → Prop} {ta tb tc te : TE} {t u : TT} {tr : TA}
theorem de_in {neg : Bool} (h : DE K W ta Γ fun d => DE K W tb Γ fun e => ∃ ds, (e = .tuple ds ∨ e = .list ds) ∧ fl d = true ∧ ds.all fl = true ∧ R (.bool (if neg then !inV (vD d) (ds.map vD) else inV (vD d) (ds.map vD)))) : DE K W (tOp (rIn K neg) ta tb) Γ R :=
  de_op (F := fun d e R => ∃ ds, (e = .tuple ds ∨ e = .list ds) ∧ fl d = true ∧ ds.all fl = true ∧ R (.bool (if neg then !inV (vD d) (ds.map vD) else inV (vD d) (ds.map vD)))) (fun W G H x y d e R Q w hx hy f k => by
    obtain ⟨ds, e1, f1, f2, r⟩ := f
    cases dp_vD hx f1
    rcases e1 with rfl | rfl
    · obtain ⟨a, xs, rfl, hs, hA⟩ := dp_tup hy
      cases dpA_vD hA f2
      exact ⟨a, _, rfl, .inr (seqT w.ex hs), flat_vD d, flats_vD ds, k _ _ G H (Same.refl G) w (.bl _) r⟩
    · obtain ⟨a, xs, rfl, hs, hA⟩ := dp_lst hy
      cases dpA_vD hA f2
      exact ⟨a, _, rfl, .inl (w.ex.seq hs), flat_vD d, flats_vD ds, k _ _ G H (Same.refl G) w (.bl _) r⟩) h

/-! ### written dicts of the top, text keys -/
def KTab (K : PySem.W.Frag) (w : World) (a : Addr) (look : Str → Option PyData) : Prop := (∃ es n, KDict K w a es n) ∧ ∀ z d, look z = some d → ∃ u v, PySem.W.nsIn K a z = some (some u) ∧ RelV v u ∧ ∀ G, Dp K G v d
def rInTab (look : Str → Option PyData) (a : Addr) : R2 := fun x y H Q => ∃ z d, x = .str z ∧ y = .ref a ∧ look z = some d ∧ Q (.bl true) H
theorem op_inTab {X : Cx} {a : Addr} {look : Str → Option PyData} (T : KTab X.K X.w a look) : OpR X (compareOp .In) (rInTab look a) := by
  obtain ⟨⟨es, n, D⟩, hl⟩ := T
  intro pins s σ H x y v u Q I rx ry h
  obtain ⟨z, d, rfl, rfl, e, q⟩ := h
  obtain ⟨u0, v0, e2, _⟩ := hl z d e
  exact op_in_kd D pins s σ H _ _ v u Q I rx ry ⟨z, some u0, rfl, rfl, e2, q⟩
theorem de_inTab {a : Addr} {look : Str → Option PyData} (h : DE K W ta Γ fun d => ∃ z e, d = .str z ∧ look z = some e ∧ R (.bool true)) : DE K W (tOp (rInTab look a) ta (tC (.ref a))) Γ R := fun G H σ Q w n k =>
  h G H σ _ w n fun v d G1 H1 s1 w1 hd ⟨z, e, ed, el, r⟩ => by
    subst ed
    exact ⟨z, e, dp_str hd, rfl, el, k _ _ G1 H1 s1 w1 (.bl _) r⟩
def rIxTab (K : PySem.W.Frag) (look : Str → Option PyData) (a : Addr) : R2 := fun x y H Q => ∃ z d, x = .ref a ∧ y = .str z ∧ look z = some d ∧ ∀ v, (∀ G, Dp K G v d) → Q v H
theorem ix_tab {X : Cx} {a : Addr} {look : Str → Option PyData} (T : KTab X.K X.w a look) : IxR X (rIxTab X.K look a) := by
  obtain ⟨⟨es, n, D⟩, hl⟩ := T
  intro value slice pins s σ H x y v u Q I rx ry h hs
  obtain ⟨z, d, rfl, rfl, e, q⟩ := h
  obtain ⟨u0, v0, e2, r0, hd⟩ := hl z d e
  exact ix_kdict value slice pins s σ H _ _ v u Q I rx ry ⟨a, z, v0, rfl, rfl, ⟨es, n, u0, D.at_, D.lit, e2, r0⟩, q v0 hd⟩ hs
theorem de_ixTab {a : Addr} {look : Str → Option PyData} (h : DE K W tb Γ fun d => ∃ z e, d = .str z ∧ look z = some e ∧ R e) : DE K W (tOp (rIxTab K look a) (tC (.ref a)) tb) Γ R := fun G H σ Q w n k =>
  h G H σ _ w n fun v d G1 H1 s1 w1 hd ⟨z, e, ed, el, r⟩ => by
    subst ed
    exact ⟨z, e, rfl, dp_str hd, el, fun v hv => k v e G1 H1 s1 w1 (hv G1) r⟩
/-- d.get(k, x), k there -/
def tTabGet (K : PySem.W.Frag) (look : Str → Option PyData) (a : Addr) (ty tx : TE) : TE := fun σ H Q => ty σ H fun y H2 => tx σ H2 fun z H3 => ∃ k d, y = .str k ∧ look k = some d ∧ ∀ v, (∀ G, Dp K G v d) → Q v H3
theorem pe_tabGet {X : Cx} {o e f : Expr} {apos cpos : Pos} {ty tx : TE} {a : Addr} {look : Str → Option PyData} (T : KTab X.K X.w a look) (ho : PE X o (tC (.ref a))) (he : PE X e ty) (hf : PE X f tx) (m : M2 X o "get" apos e f cpos) : PE X (.Call (.Attribute o "get" apos) [e, f] [] cpos) (tTabGet X.K look a ty tx) := by
  obtain ⟨⟨es, n, D⟩, hl⟩ := T
  refine ⟨fun pins s σ H Q I h => ?_⟩
  refine wpAny_Call_method m.base m.few m.line PySem.F.plainAttrs_dict PySem.F.slot_dict_get PySem.F.type_dict_get (thn (ho.run pins s σ H (fun x H1 => x = .ref a ∧ H1 = H) I ⟨rfl, rfl⟩) fun u s1 ⟨x, H1, I1, rx, ex, eH⟩ => ?_)
  subst ex
  subst eH
  obtain rfl : u = Value.ref a := rx
  have hm := PySem.W.mapOf_K (prog := X.prog) (w := X.w) I1.kIn D.at_ D.lit
  refine ⟨hm.typeIs, fun b q => ?_, ?_⟩
  · cases q
    exact ⟨_, I1.kIn _ _ D.at_, rfl⟩
  rw [m.trees]
  refine Calls.callWith_builtin rfl (Calls.evalArgs_plain (Calls.spliced_cons (thn (he.run pins s1 σ _ _ I1 h) fun iv s2 ⟨y, H2, I2, ry, q2⟩ =>
    Calls.spliced_cons (thn (hf.run pins s2 σ H2 _ I2 q2) fun fv s3 ⟨z, H3, I3, rz, q3⟩ => Calls.spliced_nil ?_))))
  obtain ⟨k, d, rfl, el, q3⟩ := q3
  obtain ⟨u0, v0, e2, r0, hd⟩ := hl k d el
  obtain ⟨t, rfl⟩ := ry
  have hm3 := PySem.W.mapOf_K (prog := X.prog) (w := X.w) I3.kIn D.at_ D.lit
  refine call_meetsIn PySem.F.slot_dict_get hm3.typeIs PySem.F.entry_dict_get (PySem.F.args_dict_get_3 _ _ _) (meets_dict_get_default (PySem.strKind X.prog X.w) a (PySem.strKind_is X.prog X.w k t) D.low fv) ⟨_, hm3, ?_⟩
  rw [PySem.W.find_K D.at_ e2]
  exact ⟨v0, H3, I3.tok _, r0, q3 v0 hd⟩
theorem de_tabGet {a : Addr} {look : Str → Option PyData} (h : DE K W ta Γ fun d => DE K W tb Γ fun _ => ∃ z e, d = .str z ∧ look z = some e ∧ R e) : DE K W (tTabGet K look a ta tb) Γ R := fun G H σ Q w n k =>
  h G H σ _ w n fun v d G1 H1 s1 w1 hd h2 => h2 G1 H1 σ _ w1 (n.mono s1) fun v2 d2 G2 H2 s2 w2 hd2 ⟨z, e, ed, el, r⟩ => by
    subst ed
    exact ⟨z, e, dp_str hd, el, fun v hv => k v e G2 H2 (s1.trans s2) w2 (hv G2) r⟩
end

/-! ### the urn -/
def Urn (K : PySem.W.Frag) (G H : Hp) (u : Addr) : Prop := ∃ (c : Addr) (cells : List Int) (at_ left mix turns : Int), H u = some (.lst [.ref c, .int at_, .int left, .int mix, .int turns]) ∧ SqL K G c (cells.map V.int) ∧ 0 ≤ at_ ∧ cells.length ≤ 100
def Own.urn (K : PySem.W.Frag) (W : Own) (u : Addr) : Own := ⟨fun a => W.us a ∨ a = u, fun G H => W.J G H ∧ Urn K G H u, fun {G G' H H'} e k j => ⟨W.loc e (fun a ha => k a (.inl ha)) j.1, by
  obtain ⟨c, cells, a, l, m, t, h1, h2, h3⟩ := j.2
  exact ⟨c, cells, a, l, m, t, by rw [← k u (.inr rfl)]; exact h1, e.seq h2, h3⟩⟩⟩
def spU (K : PySem.W.Frag) (S : List PyData → (PyData → Prop) → Prop) : Sp := fun vs H Q _ => ∃ (u : Addr) (vs' : List V) (W : Own) (G : Hp) (ds : List PyData) (R : PyData → Prop), vs = .ref u :: vs' ∧ ¬ W.us u ∧ (W.urn K u).Ok G H ∧ DpAll K G vs' ds ∧ S ds R ∧
  ∀ v d G' H', Same G G' → (W.urn K u).Ok G' H' → Dp K G' v d → R d → Q v H'
def ShU (K : PySem.W.Frag) (u : Addr) (W' : Own) : Prop := ∃ W0 : Own, ¬ W0.us u ∧ W' = W0.urn K u
section
variable {K : PySem.W.Frag} {W : Own} {u : Addr} {Γ : List Slot} {R : PyData → Prop} {tr : TA}
theorem sh_urn (hW : ¬ W.us u) : ShOk (W.urn K u) (ShU K u) := fun D xs hD => ⟨(W.cell D xs).urn K u, ⟨_, fun (z : W.us u ∨ u = D) => z.elim hW fun e => hD (.inr e.symm), rfl⟩, fun G H w g nu h =>
  ⟨w.ex, fun a ha => by
    rcases ha with (ha | ha) | ha
    · exact w.own a (.inl ha)
    · subst ha; exact ⟨g, _, h⟩
    · exact w.own a (.inr ha), ⟨w.j.1, h⟩, w.j.2⟩, fun G H w =>
  ⟨⟨w.ex, fun a ha => w.own a (ha.elim (fun z => .inl (.inl z)) .inr), w.j.1.1, w.j.2⟩, (w.own D (.inl (.inr rfl))).1, w.j.1.2⟩⟩
theorem de_callU {S : List PyData → (PyData → Prop) → Prop} {E : XK} (hW : ¬ W.us u) (h : DA K (W.urn K u) tr Γ fun ss => ∃ ss' ds, ss = .v (.ref u) :: ss' ∧ dsOf ss' = some ds ∧ S ds R) : DE K (W.urn K u) (tCall (spU K S) [] E tr) Γ R := fun G H σ Q w n k =>
  h G H σ _ w n fun vs ss G1 H1 s1 w1 ha ⟨ss', ds, e, ed, s⟩ => by
    subst e
    rw [List.append_nil]
    cases ha with
    | cons h1 h2 =>
      have e1 := Option.some.inj (show some _ = some _ from h1)
      subst e1
      exact ⟨u, _, W, G1, ds, R, rfl, hW, w1, args_ds h2 ed, s, fun v d G2 H2 s2 w2 hd r => k v d G2 H2 (s1.trans s2) w2 hd r⟩
end
section
variable {P : Program} {w : World} {K : PySem.W.Frag} {mg : Str → Option Value} {base : Heap}
theorem okU {x qual : Str} {st : Stmt} {f : Addr} {fd : FuncData} {N ps : List Str} {k : Nat} {S : List PyData → (PyData → Prop) → Prop} (F : Fun K x qual st f fd) (Sc : FnScope N ps (defScope st)) (hl : ∀ ds R, S ds R → ds.length + 1 = ps.length)
    (hb : ∀ (cdv : Value) (A : Around) (outer : List Env) (s : Shared) (H : Hp) (E : XK), Room k (A.deeper (envOfC qual (defScope st) s.heap.objs.size f cdv)) →
      ∃ t, PSs (cxOf CX0 P w K mg base N qual (defScope st) f cdv A outer s H E).nox (defBody st) t ∧ ∀ W u ds R, ¬ W.us u → S ds R → DS K (Own.urn K W u) t (.v (.ref u) :: ds.map Slot.d ++ List.replicate (N.length - ps.length) .no) (rets R)) : FnOk P w K mg base CX0 (k + 1) f fd ps (spU K S) := by
  refine F.ok Sc (fun vs H Q E h => ?_) (fun cdv A outer s H vs Q E hr h => ?_)
  · obtain ⟨u, vs', W, G, ds, R, rfl, _, _, hA, hs, _⟩ := h
    rw [List.length_cons, dpA_len _ _ hA]
    exact hl ds R hs
  · obtain ⟨u, vs', W, G, ds, R, rfl, hW, wk, hA, hs, kk⟩ := h
    obtain ⟨t, ht, hd⟩ := hb cdv A outer s H E hr
    refine ⟨t, ht, ?_⟩
    have e := en_start (N := N) (Paired.cons (show SlOk K G (some (V.ref u)) (.v (.ref u)) from rfl) (args_of hA))
    rw [List.length_cons, List.length_map, hl ds R hs] at e
    exact (hd W u ds R hW hs).run wk e kk
end
end DL
set_option Elab.async false
set_option linter.all false
set_option maxRecDepth 100000
set_option maxHeartbeats 2000000
/-! DLay4: a list of one's own that changes: ι tells what is owned now. -/
namespace DL
open PySem PySem.Spec PyProof.Rows L2
section
variable (K : PySem.W.Frag)
/-- gives a new list -/
def EN (W : Own) (te : TE) (Γ : List Slot) (X : List PyData → Prop) : Prop :=
  ∀ (G H : Hp) (σ : L2.St) (Q : VK), W.Ok G H → En K G σ Γ → (∀ D xs ds G' H', Same G G' → W.Ok G' H' → G' D = none → ¬ W.us D → H' D = some (.lst xs) → DpAll K G' xs ds → X ds → Q (.ref D) H') → te σ H Q
structure Pof (ι : Type) where
  nx : ι → List Slot → Prop
  rt : ι → PyData → Prop
  bk : ι → List Slot → Prop
  ct : ι → List Slot → Prop
def DSf {ι : Type} (Wf : ι → Own) (ts : TS) (i : ι) (Γ : List Slot) (P : Pof ι) : Prop :=
  ∀ (G H : Hp) (σ : L2.St) (D : Ends), (Wf i).Ok G H → En K G σ Γ →
    (∀ i' Γ' σ' G' H', Same G G' → (Wf i').Ok G' H' → En K G' σ' Γ' → P.nx i' Γ' → D.nx σ' H') →
    (∀ i' v d G' H', Same G G' → (Wf i').Ok G' H' → Dp K G' v d → P.rt i' d → D.rt v H') →
    (∀ i' Γ' σ' G' H', Same G G' → (Wf i').Ok G' H' → En K G' σ' Γ' → P.bk i' Γ' → D.bk σ' H') →
    (∀ i' Γ' σ' G' H', Same G G' → (Wf i').Ok G' H' → En K G' σ' Γ' → P.ct i' Γ' → D.ct σ' H') → ts D σ H
end
section
variable {K : PySem.W.Frag} {W : Own} {ι : Type} {Wf : ι → Own} {i : ι} {Γ : List Slot} {P : Pof ι} {ts tu : TS} {t : TT} {te : TE} {g : TG}
abbrev Pof.at (P : Pof ι) (i : ι) : Po := ⟨P.nx i, P.rt i, P.bk i, P.ct i⟩
theorem dsf_lift (h : DS K (Wf i) ts Γ (P.at i)) : DSf K Wf ts i Γ P := fun G H σ D w n k1 k2 k3 k4 => h G H σ D w n (k1 i) (k2 i) (k3 i) (k4 i)
theorem dsf_nil (q : P.nx i Γ) : DSf K Wf tNext i Γ P := dsf_lift (ds_nil q)
theorem dsf_seq (h : DSf K Wf ts i Γ { P with nx := fun i' Γ' => DSf K Wf tu i' Γ' P }) : DSf K Wf (tSeq ts tu) i Γ P := fun G H σ D w n k1 k2 k3 k4 =>
  h G H σ { D with nx := tu D } w n (fun i' Γ' σ' G' H' s' w' n' q => q G' H' σ' D w' n' (fun i a b c d e => k1 i a b c d (s'.trans e)) (fun i a b c d e => k2 i a b c d (s'.trans e)) (fun i a b c d e => k3 i a b c d (s'.trans e)) (fun i a b c d e => k4 i a b c d (s'.trans e))) k2 k3 k4
theorem dsf_if (h : DT K (Wf i) t Γ fun b => if b = true then DSf K Wf ts i Γ P else DSf K Wf tu i Γ P) : DSf K Wf (tIfS t ts tu) i Γ P := fun G H σ D w n k1 k2 k3 k4 =>
  h G H σ _ w n fun b G' H' s' w' r => by
    cases b with
    | true => exact r G' H' σ D w' (n.mono s') (fun i a b c d e => k1 i a b c d (s'.trans e)) (fun i a b c d e => k2 i a b c d (s'.trans e)) (fun i a b c d e => k3 i a b c d (s'.trans e)) (fun i a b c d e => k4 i a b c d (s'.trans e))
    | false => exact r G' H' σ D w' (n.mono s') (fun i a b c d e => k1 i a b c d (s'.trans e)) (fun i a b c d e => k2 i a b c d (s'.trans e)) (fun i a b c d e => k3 i a b c d (s'.trans e)) (fun i a b c d e => k4 i a b c d (s'.trans e))
abbrev Pof.loop (P : Pof ι) (I : ι → List Slot → Prop) : Pof ι := { P with nx := I, ct := I, bk := P.nx }
theorem dsf_while (Iv : Nat → ι → List Slot → Prop) (m0 : Nat) (h0 : Iv m0 i Γ) (hs : ∀ m i Γ', Iv m i Γ' → DT K (Wf i) t Γ' fun b => if b = true then DSf K Wf ts i Γ' (P.loop fun i2 Γ2 => ∃ m', m' < m ∧ Iv m' i2 Γ2) else P.nx i Γ') : DSf K Wf (tWhile t ts) i Γ P := fun G H σ D w n k1 k2 k3 k4 => by
  refine ⟨fun m σ' H' => ∃ i' Γ' G', Same G G' ∧ (Wf i').Ok G' H' ∧ En K G' σ' Γ' ∧ Iv m i' Γ', ⟨m0, i, Γ, G, Same.refl G, w, n, h0⟩, fun m σ' H' p => ?_⟩
  obtain ⟨i', Γ', G', s', w', n', q⟩ := p
  refine hs m i' Γ' q G' H' σ' _ w' n' fun b G2 H2 s2 w2 r => ?_
  cases b with
  | false => exact k1 i' Γ' σ' G2 H2 (s'.trans s2) w2 (n'.mono s2) r
  | true =>
    refine ⟨fun σ3 H3 => ∃ i3 Γ3 G3, Same G G3 ∧ (Wf i3).Ok G3 H3 ∧ En K G3 σ3 Γ3 ∧ ∃ m', m' < m ∧ Iv m' i3 Γ3, fun σ3 H3 p => ?_, ?_⟩
    · obtain ⟨i3, Γ3, G3, s3, w3, n3, m', hm, q3⟩ := p
      exact ⟨m', hm, i3, Γ3, G3, s3, w3, n3, q3⟩
    · exact r G2 H2 σ' _ w2 (n'.mono s2) (fun i a b c d e f g h => ⟨i, a, c, (s'.trans s2).trans e, f, g, h⟩) (fun i a b c d e => k2 i a b c d ((s'.trans s2).trans e)) (fun i a b c d e => k1 i a b c d ((s'.trans s2).trans e)) (fun i a b c d e f g h => ⟨i, a, c, (s'.trans s2).trans e, f, g, h⟩)
theorem dsf_forR1 {tr : TA} (Iv : Nat → ι → List Slot → Prop) (h : DA K (Wf i) tr Γ fun ss => ∃ m : Int, dsOf ss = some [.int m] ∧ m < 2 ^ 62 ∧ -(2 ^ 62) ≤ m ∧ Iv 0 i Γ ∧ (∀ (j : Nat) i' Γ', (j : Int) < m → Iv j i' Γ' → DG K (Wf i') g (.int j) Γ' fun Γ2 => DSf K Wf ts i' Γ2 (P.loop (Iv (j + 1)))) ∧ ∀ i' Γ', Iv m.toNat i' Γ' → P.nx i' Γ') :
    DSf K Wf (tFor (iRng1 tr) g ts) i Γ P := fun G H σ D w n k1 k2 k3 k4 =>
  h G H σ _ w n fun vs ss G0 H0 s0 w0 ha ⟨m, e, m1, m2, h0, hs, hd⟩ => by
    obtain ⟨v, ev, hv⟩ := one_of (args_ds ha e)
    cases dp_int hv
    refine ⟨m, ev, m2, m1, for_range (lo := 0) (n := m.toNat) (fun j σ' H' => ∃ i' Γ' G', Same G G' ∧ (Wf i').Ok G' H' ∧ En K G' σ' Γ' ∧ Iv j i' Γ') ⟨i, Γ, G0, s0, w0, n.mono s0, h0⟩ (fun j σ' H' hi p => ?_) fun σ' H' p => ?_⟩
    · obtain ⟨i', Γ', G', s', w', n', q⟩ := p
      have e0 : (0 : Int) + (j : Int) = (j : Int) := Int.zero_add _
      rw [e0]
      refine hs j i' Γ' (by omega) q G' H' σ' _ _ w' n' (.int _) fun Γ2 σ2 G2 H2 s2 w2 n2 q2 => ?_
      exact q2 G2 H2 σ2 _ w2 n2 (fun i a b c d e f g h => ⟨i, a, c, (s'.trans s2).trans e, f, g, h⟩) (fun i a b c d e => k2 i a b c d ((s'.trans s2).trans e)) (fun i a b c d e => k1 i a b c d ((s'.trans s2).trans e)) (fun i a b c d e f g h => ⟨i, a, c, (s'.trans s2).trans e, f, g, h⟩)
    · obtain ⟨i', Γ', G', s', w', n', q⟩ := p
      exact k1 i' Γ' σ' G' H' s' w' n' (hd i' Γ' q)
end

/-! ### new lists -/
section
variable {K : PySem.W.Frag} {W : Own} {Γ : List Slot} {X : List PyData → Prop} {te tl : TE} {t : TT} {tr : TA} {g : TG}
theorem en_lst (h : DA K W tr Γ fun ss => ∃ ds, dsOf ss = some ds ∧ ds.length ≤ 1000 ∧ X ds) : EN K W (tLst tr) Γ X := fun G H σ Q w n k =>
  h G H σ _ w n fun vs ss G1 H1 s1 w1 ha ⟨ds, e, hl, r⟩ => by
    have hA := args_ds ha e
    refine ⟨by rw [dpA_len _ _ hA]; exact Nat.le_of_lt (small1000 hl), fun p hp => ?_⟩
    have hG := w1.ex.free hp
    exact k p vs ds G1 _ s1 (w1.side hG (w1.nown hp)) hG (w1.nown hp) upd_same hA r
theorem de_of_en {R : PyData → Prop} (h : EN K W te Γ fun ds => R (.list ds)) : DE K W te Γ R := fun G H σ Q w n k =>
  h G H σ _ w n fun D xs ds G1 H1 s1 w1 g1 u1 h1 a1 r => k _ _ (upd G1 D (.lst xs)) H1 (s1.trans (same_new g1)) (w1.freeze g1 u1 h1) (.lst (SqL.of upd_same) (dpA_mono (same_new g1) _ _ a1)) r
theorem en_lcL {vs : List Nat} {Sh : Own → Prop} (hSh : ShOk W Sh) (h : DE K W tl Γ fun d => ∃ ds, d = .list ds ∧ ds.length ≤ 10000 ∧ ∃ (P : Nat → PyData → Prop) (N : Nat → Prop),
      (∀ (i : Nat) x, ds[i]? = some x → ∃ Γ2, CG K g vs x (wipeS Γ vs) Γ2 ∧ ∀ W', Sh W' → DT K W' t Γ2 fun b => if b = true then DE K W' te Γ2 (P i) else N i) ∧ ∀ ys, Gv P N ds.length ys → X ys) :
    EN K W (tLc (iList K tl) g t te vs) Γ X := fun G H σ Q w n k => by
  refine h G H σ _ w n fun v d G0 H0 s0 w0 hd0 r => ?_
  obtain ⟨ds, e, hz, P, N, hs, hd⟩ := r
  subst e
  obtain ⟨a, xs, rfl, hq, hA⟩ := dp_lst hd0
  refine ⟨a, rfl, ⟨xs, w0.ex.seq hq⟩, fun D hD => ?_⟩
  have gD : G0 D = none := w0.ex.free hD
  have uD := w0.nown hD
  refine lc_list (xs := xs) (fun i H' => CwD K W σ Γ G0 D (Gv P N i) H') ⟨⟨G0, [], [], Same.refl _, gD, uD, w0.side gD uD, n.mono s0, upd_same, .nil, .nil⟩⟩ (fun i H' _ p => ?_) (fun i x H' hx p => ?_) fun H' p => ?_
  · obtain ⟨⟨G1, ys, es, s1, g1, u1, w1, n1, h1, a1, x1⟩⟩ := p
    exact w1.ex.seq (s1.seq hq)
  · obtain ⟨⟨G1, ys, es, s1, g1, u1, w1, n1, h1, a1, x1⟩⟩ := p
    obtain ⟨dx, ex, hx⟩ := dpA_get' _ _ hA i x hx
    obtain ⟨Γ2, cg, hb⟩ := hs i dx ex
    refine cg G1 H' (wipe σ vs) x _ w1.ex (n1.wipe vs) (dp_mono s1 _ _ hx) fun σ2 n2 e2 => ⟨wipe_eq e2, ?_⟩
    exact lc_turn hSh s1 g1 u1 w1 n1 h1 a1 x1 n2 (by have := (List.getElem?_eq_some_iff.mp ex).1; omega) hb
  · obtain ⟨⟨G1, ys, es, s1, g1, u1, w1, n1, h1, a1, x1⟩⟩ := p
    rw [dpA_len _ _ hA] at x1
    exact k D ys es G1 H' (s0.trans s1) w1 g1 u1 h1 a1 (hd es x1)
theorem en_lcR {vs : List Nat} {Sh : Own → Prop} (hSh : ShOk W Sh) (h : DA K W tr Γ fun ss => ∃ m : Int, dsOf ss = some [.int m] ∧ m ≤ 10000 ∧ -10000 ≤ m ∧ ∃ (P : Nat → PyData → Prop) (N : Nat → Prop),
      (∀ (i : Nat), (i : Int) < m → ∃ Γ2, CG K g vs (.int i) (wipeS Γ vs) Γ2 ∧ ∀ W', Sh W' → DT K W' t Γ2 fun b => if b = true then DE K W' te Γ2 (P i) else N i) ∧ ∀ ys, Gv P N m.toNat ys → X ys) :
    EN K W (tLc (iRng1 tr) g t te vs) Γ X := fun G H σ Q w n k => by
  refine h G H σ _ w n fun us ss G0 H0 s0 w0 ha r => ?_
  obtain ⟨m, e, m1, m2, P, N, hs, hd⟩ := r
  obtain ⟨v, ev, hv⟩ := one_of (args_ds ha e)
  cases dp_int hv
  refine ⟨m, ev, by omega, by omega, fun D hD => ?_⟩
  have gD : G0 D = none := w0.ex.free hD
  have uD := w0.nown hD
  refine lc_range (lo := 0) (n := m.toNat) (fun i H' => CwD K W σ Γ G0 D (Gv P N i) H') ⟨⟨G0, [], [], Same.refl _, gD, uD, w0.side gD uD, n.mono s0, upd_same, .nil, .nil⟩⟩ (fun i H' hi p => ?_) fun H' p => ?_
  · obtain ⟨⟨G1, ys, es, s1, g1, u1, w1, n1, h1, a1, x1⟩⟩ := p
    obtain ⟨Γ2, cg, hb⟩ := hs i (by omega)
    have e0 : (0 : Int) + (i : Int) = (i : Int) := Int.zero_add _
    rw [e0]
    refine cg G1 H' (wipe σ vs) _ _ w1.ex (n1.wipe vs) (.int _) fun σ2 n2 e2 => ⟨wipe_eq e2, ?_⟩
    exact lc_turn hSh s1 g1 u1 w1 n1 h1 a1 x1 n2 (by omega) hb
  · obtain ⟨⟨G1, ys, es, s1, g1, u1, w1, n1, h1, a1, x1⟩⟩ := p
    exact k D ys es G1 H' (s0.trans s1) w1 g1 u1 h1 a1 (hd es x1)
end

/-! ### the pool -/
def Own.pool (K : PySem.W.Frag) (W : Own) (D : Addr) (ds : List PyData) : Own := ⟨fun a => W.us a ∨ a = D, fun G H => W.J G H ∧ ∃ xs, H D = some (.lst xs) ∧ DpAll K G xs ds, fun {G G' H H'} e k j => ⟨W.loc e (fun a ha => k a (.inl ha)) j.1, by
  obtain ⟨xs, h1, h2⟩ := j.2
  exact ⟨xs, by rw [← k D (.inr rfl)]; exact h1, dpA_mono e _ _ h2⟩⟩⟩
/-- a family of ownerships in which the list at D holds ds -/
structure PoolW (K : PySem.W.Frag) (W : Own) (D : Addr) (Wf : List PyData → Own) : Prop where
  inn : ∀ {G H : Hp} {xs : List V} {ds : List PyData}, W.Ok G H → G D = none → ¬ W.us D → H D = some (.lst xs) → DpAll K G xs ds → (Wf ds).Ok G H
  out : ∀ {G H : Hp} {ds : List PyData}, (Wf ds).Ok G H → W.Ok G H
  own : ∀ {G H : Hp} {ds : List PyData}, (Wf ds).Ok G H → G D = none ∧ ∃ xs, H D = some (.lst xs) ∧ DpAll K G xs ds
  put : ∀ {G H : Hp} {xs : List V} {ds es : List PyData}, (Wf ds).Ok G H → DpAll K G xs es → (Wf es).Ok G (upd H D (.lst xs))
theorem poolW {K : PySem.W.Frag} {W : Own} {D : Addr} (hn : ¬ W.us D) : PoolW K W D (fun ds => W.pool K D ds) where
  inn := fun w g u h a => ⟨w.ex, fun b hb => by
    rcases hb with hb | hb
    · exact w.own b hb
    · subst hb; exact ⟨g, _, h⟩, w.j, _, h, a⟩
  out := fun w => ⟨w.ex, fun a ha => w.own a (.inl ha), w.j.1⟩
  own := fun w => ⟨(w.own D (.inr rfl)).1, w.j.2⟩
  put := fun {G H xs ds es} w a => by
    have g := (w.own D (.inr rfl)).1
    refine ⟨fun b o e => ?_, fun b hb => ?_, ?_, xs, upd_same, a⟩
    · rw [upd_ne (ne_of_none e g)]
      exact w.ex b o e
    · obtain ⟨g', o, e⟩ := w.own b hb
      by_cases hp : b = D
      · subst hp; exact ⟨g', _, upd_same⟩
      · exact ⟨g', o, by rw [upd_ne hp]; exact e⟩
    · exact W.loc (Same.refl G) (fun b hb => by rw [upd_ne (show b ≠ D from fun z => hn (z ▸ hb))]) w.j.1
theorem poolU {K : PySem.W.Frag} {W : Own} {D u : Addr} (hn : ¬ (W.urn K u).us D) : PoolW K (W.urn K u) D (fun ds => (W.pool K D ds).urn K u) where
  inn := fun w g _ h a => ⟨w.ex, fun b hb => by
    rcases hb with (hb | hb) | hb
    · exact w.own b (.inl hb)
    · subst hb; exact ⟨g, _, h⟩
    · exact w.own b (.inr hb), ⟨w.j.1, _, h, a⟩, w.j.2⟩
  out := fun w => ⟨w.ex, fun a ha => w.own a (ha.elim (fun z => .inl (.inl z)) .inr), w.j.1.1, w.j.2⟩
  own := fun w => ⟨(w.own D (.inl (.inr rfl))).1, w.j.1.2⟩
  put := fun {G H xs ds es} w a => by
    have g := (w.own D (.inl (.inr rfl))).1
    have hD : D ≠ u := fun z => hn (.inr z)
    refine ⟨fun b o e => ?_, fun b hb => ?_, ⟨?_, xs, upd_same, a⟩, ?_⟩
    · rw [upd_ne (ne_of_none e g)]
      exact w.ex b o e
    · obtain ⟨g', o, e⟩ := w.own b hb
      by_cases hp : b = D
      · subst hp; exact ⟨g', _, upd_same⟩
      · exact ⟨g', o, by rw [upd_ne hp]; exact e⟩
    · exact W.loc (Same.refl G) (fun b hb => by rw [upd_ne (show b ≠ D from fun z => hn (.inl (z ▸ hb)))]) w.j.1.1
    · obtain ⟨c, cells, a1, l, m, t, h1, h2⟩ := w.j.2
      exact ⟨c, cells, a1, l, m, t, by rw [upd_ne hD.symm]; exact h1, h2⟩
section
variable {K : PySem.W.Frag} {W : Own} {Γ : List Slot} {X : List PyData → Prop} {te tl : TE} {t : TT} {tr : TA} {g : TG} {tu ts : TS}
abbrev Po.f (P : Po) : Pof (List PyData) := ⟨fun _ => P.nx, fun _ => P.rt, fun _ => P.bk, fun _ => P.ct⟩
theorem ds_poolGen {P : Po} {i : Nat} (Wf : Addr → List PyData → Own) (hW : ∀ D, ¬ W.us D → PoolW K W D (Wf D)) (h : EN K W te Γ fun ds => ∀ D, ¬ W.us D → DSf K (Wf D) tu ds (Γ.set i (.v (.ref D))) P.f) : DS K W (tSeq (tAsg te (gName i)) tu) Γ P := fun G H σ D w n k1 k2 k3 k4 =>
  h G H σ _ w n fun a xs ds G1 H1 s1 w1 g1 u1 h1 a1 r => by
    have p := hW a u1
    exact r a u1 G1 H1 _ D (p.inn w1 g1 u1 h1 a1) ((n.mono s1).set i rfl) (fun i' Γ' σ' G' H' s' w' n' q => k1 Γ' σ' G' H' (s1.trans s') (p.out w') n' q) (fun i' v d G' H' s' w' hd q => k2 v d G' H' (s1.trans s') (p.out w') hd q)
      (fun i' Γ' σ' G' H' s' w' n' q => k3 Γ' σ' G' H' (s1.trans s') (p.out w') n' q) (fun i' Γ' σ' G' H' s' w' n' q => k4 Γ' σ' G' H' (s1.trans s') (p.out w') n' q)
theorem ds_pool {P : Po} {i : Nat} (h : EN K W te Γ fun ds => ∀ D, ¬ W.us D → DSf K (fun ds => W.pool K D ds) tu ds (Γ.set i (.v (.ref D))) P.f) : DS K W (tSeq (tAsg te (gName i)) tu) Γ P := ds_poolGen (fun D ds => W.pool K D ds) (fun D hn => poolW hn) h
theorem ds_poolU {P : Po} {u : Addr} {i : Nat} (h : EN K (W.urn K u) te Γ fun ds => ∀ D, ¬ (W.urn K u).us D → DSf K (fun ds => (W.pool K D ds).urn K u) tu ds (Γ.set i (.v (.ref D))) P.f) : DS K (W.urn K u) (tSeq (tAsg te (gName i)) tu) Γ P := ds_poolGen (fun D ds => (W.pool K D ds).urn K u) (fun D hn => poolU hn) h
variable {D : Addr} {Wf : List PyData → Own} {ds : List PyData} {P : Pof (List PyData)}
/-- len of it -/
theorem de_lenP {R : PyData → Prop} {j : Nat} (p : PoolW K W D Wf) (e : Γ[j]? = some (.v (.ref D))) (q : R (.int ds.length)) : DE K (Wf ds) (tCB (rLenQ K) (tCons (tVar j) tNil)) Γ R := fun G H σ Q w n k => by
  obtain ⟨g, xs, h, a⟩ := p.own w
  refine ⟨.ref D, n.getV e, D, xs, rfl, .inl (SqL.of h), ?_⟩
  rw [dpA_len _ _ a]
  exact k _ _ G H (Same.refl G) w (.int _) q
/-- an item of it -/
theorem de_ixP {R : PyData → Prop} {j : Nat} {tb : TE} (p : PoolW K W D Wf) (e : Γ[j]? = some (.v (.ref D))) (h : DE K (Wf ds) tb Γ fun d => ∃ i x, d = .int i ∧ atI ds i = some x ∧ R x) : DE K (Wf ds) (tOp (rIxL K) (tVar j) tb) Γ R := fun G H σ Q w n k =>
  ⟨.ref D, n.getV e, h G H σ _ w n fun v d G1 H1 s1 w1 hd ⟨i, x, ed, ex, r⟩ => by
    subst ed
    obtain ⟨g, xs, h, a⟩ := p.own w1
    obtain ⟨v, ev, hv⟩ := atI_map a ex
    exact ⟨D, xs, i, v, rfl, dp_int hd, SqL.of h, ev, k _ _ G1 H1 s1 w1 hv r⟩⟩
/-- p.append(e) -/
theorem dsf_append {j : Nat} (p : PoolW K W D Wf) (e : Γ[j]? = some (.v (.ref D))) (hl : ds.length < 100000) (h : DE K (Wf ds) te Γ fun d => P.nx (ds ++ [d]) Γ) : DSf K Wf (tDrop (tBM K "list" rAppend (tVar j) (tCons te tNil))) ds Γ P := fun G H σ D' w n k1 k2 k3 k4 => by
  obtain ⟨g, xs, h0, a⟩ := p.own w
  refine ⟨.ref D, n.getV e, .inl ⟨rfl, _, SqL.of h0⟩, h G H σ _ w n fun v d G1 H1 s1 w1 hd q => ?_⟩
  obtain ⟨g1, xs1, h1, a1⟩ := p.own w1
  refine ⟨D, xs1, v, rfl, rfl, h1, ?_, ?_⟩
  · rw [dpA_len _ _ a1]
    exact Nat.lt_of_lt_of_le hl (by decide)
  · exact k1 _ Γ σ G1 _ s1 (p.put w1 (dpA_app _ _ _ _ a1 (.cons hd .nil))) (n.mono s1) q
/-- p.extend(a new list) -/
theorem dsf_extend {j : Nat} (p : PoolW K W D Wf) (e : Γ[j]? = some (.v (.ref D))) (h : EN K (Wf ds) te Γ fun es => ds.length + es.length ≤ 100000 ∧ P.nx (ds ++ es) Γ) : DSf K Wf (tDrop (tBM K "list" rExtend (tVar j) (tCons te tNil))) ds Γ P := fun G H σ D' w n k1 k2 k3 k4 => by
  obtain ⟨g, xs, h0, a⟩ := p.own w
  refine ⟨.ref D, n.getV e, .inl ⟨rfl, _, SqL.of h0⟩, h G H σ _ w n fun b ys es G1 H1 s1 w1 g1 u1 hb ab ⟨hl, q⟩ => ?_⟩
  obtain ⟨g2, xs1, h1, a1⟩ := p.own w1
  refine ⟨D, b, xs1, ys, rfl, rfl, h1, hb, ?_, ?_⟩
  · rw [dpA_len _ _ a1, dpA_len _ _ ab]
    exact Nat.le_trans hl (by decide)
  · exact k1 _ Γ σ G1 _ s1 (p.put w1 (dpA_app _ _ _ _ a1 ab)) (n.mono s1) q
/-- a, b, .. = p.pop() -/
theorem dsf_popT {j m : Nat} (l : List Nat) {es : List PyData} (p : PoolW K W D Wf) (e : Γ[j]? = some (.v (.ref D))) (hl : l.length = es.length) (hm : es.length = m) (q : P.nx ds (setAll l es Γ)) :
    DSf K Wf (tAsg (tBM0 K "list" rPop (tVar j)) (gTup K m (gsOf l))) (ds ++ [.tuple es]) Γ P := fun G H σ D' w n k1 k2 k3 k4 => by
  obtain ⟨g, xs, h0, a⟩ := p.own w
  have l1 := dpA_len _ _ a
  rw [List.length_append, List.length_singleton] at l1
  obtain ⟨v, ev, hv⟩ := dpA_get _ _ a ds.length (.tuple es) (by rw [List.getElem?_append_right (Nat.le_refl _), Nat.sub_self]; rfl)
  obtain ⟨b, ys, rfl, hs, hA⟩ := dp_tup hv
  have a2 := dpA_dropLast _ _ a
  rw [List.dropLast_concat] at a2
  have w2 := p.put w a2
  refine ⟨.ref D, n.getV e, .inl ⟨rfl, _, SqL.of h0⟩, D, xs, .ref b, rfl, rfl, h0, ?_, ?_⟩
  · rw [l1, Nat.add_sub_cancel]
    exact ev
  · exact ⟨b, ys, rfl, seqT w2.ex hs, by rw [dpA_len _ _ hA]; exact hm, dgs_of l es Γ G _ σ ys _ hl n hA fun σ' n' => k1 ds _ σ' G _ (Same.refl G) w2 n' q⟩
end
end DL
set_option Elab.async false
set_option linter.all false
set_option maxRecDepth 100000
set_option maxHeartbeats 2000000
namespace DL
open PySem PySem.Spec PyProof.Rows L2
theorem Gv.mapL {α : Type} {P : Nat → PyData → Prop} {l : List α} {f : α → PyData} {ys : List PyData} (h : Gv P (fun _ => False) l.length ys) (e : ∀ i y, P i y → ∃ x, l[i]? = some x ∧ y = f x) : ys = l.map f := by
  have h1 : ∀ n ys, Gv P (fun _ => False) n ys → n ≤ l.length → ys = (l.take n).map f := by
    intro n ys h
    induction h with
    | nil => intro _; rfl
    | no _ p _ => exact p.elim
    | @yes n ys y _ p ih =>
      intro hn
      obtain ⟨x, ex, ey⟩ := e _ _ p
      rw [ih (by omega), ey, List.take_add_one, ex, List.map_append]
      rfl
  have := h1 _ _ h (Nat.le_refl _)
  rw [List.take_of_length_le (Nat.le_refl _)] at this
  exact this
theorem Gv.one {P : Nat → PyData → Prop} {ys : List PyData} (h : Gv P (fun _ => False) 1 ys) : ∃ y, ys = [y] ∧ P 0 y := by
  obtain ⟨l, q⟩ := h.each
  rcases ys with _ | ⟨y, _ | ⟨z, r⟩⟩
  · cases l
  · exact ⟨y, rfl, q 0 y rfl⟩
  · cases l
theorem Gv.two {P : Nat → PyData → Prop} {ys : List PyData} (h : Gv P (fun _ => False) 2 ys) : ∃ y z, ys = [y, z] ∧ P 0 y ∧ P 1 z := by
  obtain ⟨l, q⟩ := h.each
  rcases ys with _ | ⟨y, _ | ⟨z, _ | ⟨w, r⟩⟩⟩
  · cases l
  · cases l
  · exact ⟨y, z, rfl, q 0 y rfl, q 1 z rfl⟩
  · cases l
section
variable {K : PySem.W.Frag} {W : Own} {Γ : List Slot} {R : PyData → Prop} {ta tb te : TE} {t : TT} {tr : TA}
/-- texts compared -/
theorem de_eqS (h : DE K W ta Γ fun d => DE K W tb Γ fun e => ∃ x y, d = .str x ∧ e = .str y ∧ True ∧ R (.bool (decide (x = y)))) : DE K W (tOp rEq ta tb) Γ R :=
  de_op (F := fun d e R => ∃ x y, d = .str x ∧ e = .str y ∧ True ∧ R (.bool (decide (x = y)))) (fun W G H x y d e R Q w hx hy f k => by
    obtain ⟨i, j, rfl, rfl, _, r⟩ := f
    cases dp_str hx
    cases dp_str hy
    refine ⟨rfl, ?_⟩
    have e : decide (V.str i = V.str j) = decide (i = j) := by
      by_cases q : i = j
      · rw [decide_eq_true q, decide_eq_true (congrArg V.str q)]
      · rw [decide_eq_false q, decide_eq_false (fun z => q (V.str.inj z))]
    rw [e]
    exact k _ _ G H (Same.refl G) w (.bl _) r) h
theorem de_neS (h : DE K W ta Γ fun d => DE K W tb Γ fun e => ∃ x y, d = .str x ∧ e = .str y ∧ True ∧ R (.bool (!decide (x = y)))) : DE K W (tOp rNe ta tb) Γ R :=
  de_op (F := fun d e R => ∃ x y, d = .str x ∧ e = .str y ∧ True ∧ R (.bool (!decide (x = y)))) (fun W G H x y d e R Q w hx hy f k => by
    obtain ⟨i, j, rfl, rfl, _, r⟩ := f
    cases dp_str hx
    cases dp_str hy
    refine ⟨rfl, ?_⟩
    have e : decide (V.str i = V.str j) = decide (i = j) := by
      by_cases q : i = j
      · rw [decide_eq_true q, decide_eq_true (congrArg V.str q)]
      · rw [decide_eq_false q, decide_eq_false (fun z => q (V.str.inj z))]
    rw [e]
    exact k _ _ G H (Same.refl G) w (.bl _) r) h
end
end DL
set_option Elab.async false
set_option linter.all false
set_option maxRecDepth 100000
set_option maxHeartbeats 2000000
/-! DLay6: the urn by its state; list.index; slices of lists; the urn's making. -/
namespace DL
open PySem PyProof.Rows L2
theorem op_eqDK {X : Cx} {K : PySem.W.Frag} (hK : X.K = K) (hu : X.A.units + 64 < cLine) : OpR X (compareOp .Eq) (rEqD K) := hK ▸ op_eqD hu
theorem op_neDK {X : Cx} {K : PySem.W.Frag} (hK : X.K = K) (hu : X.A.units + 64 < cLine) : OpR X (compareOp .NotEq) (rNeD K) := hK ▸ op_neD hu
theorem op_inK {X : Cx} {K : PySem.W.Frag} (hK : X.K = K) : OpR X (compareOp .In) (rIn K false) := hK ▸ op_in_seq
theorem op_notInK {X : Cx} {K : PySem.W.Frag} (hK : X.K = K) : OpR X (compareOp .NotIn) (rIn K true) := hK ▸ op_notIn_seq
theorem ix_tupK {X : Cx} {K : PySem.W.Frag} (hK : X.K = K) : IxR X (rIxT K) := hK ▸ ix_tup
theorem ix_listK {X : Cx} {K : PySem.W.Frag} (hK : X.K = K) : IxR X (rIxL K) := hK ▸ ix_list
theorem cb_lenK {X : Cx} {K : PySem.W.Frag} (hK : X.K = K) : CallR X (.builtin "len") (rLenQ K) := hK ▸ cb_len
theorem call_isiK1 {X : Cx} {K : PySem.W.Frag} (hK : X.K = K) : CallR X (.builtin "isinstance") (rIsi K) := hK ▸ call_isi
def rIntB : List V → Hp → VK → Prop := fun xs H Q => ∃ k, xs = [.bl k] ∧ Q (.int (if k then 1 else 0)) H
theorem cb_intB {X : Cx} : CallR X (.type "int") rIntB := fun pins s σ H xs us Q I r h => call_int1 pins s σ H xs us Q I r (.inr h)
theorem de_intBB {K : PySem.W.Frag} {W : Own} {Γ : List Slot} {R : PyData → Prop} {tr : TA} (h : DA K W tr Γ fun ss => ∃ b, dsOf ss = some [.bool b] ∧ R (.int (if b then 1 else 0))) : DE K W (tCB rIntB tr) Γ R := fun G H σ Q w n k =>
  h G H σ _ w n fun vs ss G' H' s w' a ⟨b, e, r⟩ => by
    obtain ⟨v, rfl, hv⟩ := one_of (args_ds a e)
    cases dp_bool hv
    exact ⟨b, rfl, k _ _ G' H' s w' (.int _) r⟩
structure USt where
  at_ : Int
  left : Int
  mix : Int
  turns : Int
def USt.lst (c : Addr) (s : USt) : List V := [.ref c, .int s.at_, .int s.left, .int s.mix, .int s.turns]
def USt.get (s : USt) : Nat → Int
  | 1 => s.at_ | 2 => s.left | 3 => s.mix | 4 => s.turns | _ => 0
def USt.put (s : USt) (k : Nat) (v : Int) : USt := match k with
  | 1 => { s with at_ := v } | 2 => { s with left := v } | 3 => { s with mix := v } | 4 => { s with turns := v } | _ => s
def Own.urnE (K : PySem.W.Frag) (W : Own) (u c : Addr) (cells : List Int) (s : USt) : Own := ⟨fun a => W.us a ∨ a = u, fun G H => W.J G H ∧ H u = some (.lst (s.lst c)) ∧ SqL K G c (cells.map V.int) ∧ 0 ≤ s.at_, fun {G G' H H'} e k j => ⟨W.loc e (fun a ha => k a (.inl ha)) j.1, by
  obtain ⟨h1, h2, h3⟩ := j.2
  exact ⟨by rw [← k u (.inr rfl)]; exact h1, e.seq h2, h3⟩⟩⟩
section
variable {K : PySem.W.Frag} {W : Own} {u c : Addr} {cells : List Int} {s : USt}
theorem urnE_in {G H : Hp} (w : (W.urn K u).Ok G H) : ∃ c cells s, (W.urnE K u c cells s).Ok G H ∧ cells.length ≤ 100 := by
  obtain ⟨c, cells, a, l, m, t, h1, h2, h3, h4⟩ := w.j.2
  exact ⟨c, cells, ⟨a, l, m, t⟩, ⟨w.ex, w.own, w.j.1, h1, h2, h3⟩, h4⟩
theorem urnE_out {G H : Hp} (hc : cells.length ≤ 100) (w : (W.urnE K u c cells s).Ok G H) : (W.urn K u).Ok G H :=
  ⟨w.ex, w.own, w.j.1, c, cells, s.at_, s.left, s.mix, s.turns, w.j.2.1, w.j.2.2.1, w.j.2.2.2, hc⟩
theorem lst_set {k : Nat} (h : 1 ≤ k ∧ k ≤ 4) (v : Int) : (s.lst c).set k (.int v) = (s.put k v).lst c := by
  obtain ⟨h1, h2⟩ := h
  match k, h1, h2 with
  | 1, _, _ => rfl
  | 2, _, _ => rfl
  | 3, _, _ => rfl
  | 4, _, _ => rfl
theorem lst_get {k : Nat} (h : 1 ≤ k ∧ k ≤ 4) : (s.lst c)[k]? = some (.int (s.get k)) := by
  obtain ⟨h1, h2⟩ := h
  match k, h1, h2 with
  | 1, _, _ => rfl
  | 2, _, _ => rfl
  | 3, _, _ => rfl
  | 4, _, _ => rfl
variable {Γ : List Slot} {R : PyData → Prop} {ta tb te : TE} {P : Pof USt}
/-- urn[k] -/
theorem de_urn {k : Nat} (e : Γ[0]? = some (.v (.ref u))) (hk : 1 ≤ k ∧ k ≤ 4) (q : R (.int (s.get k))) : DE K (W.urnE K u c cells s) (tOp (rIxL K) (tVar 0) (tC (.int (k : Int)))) Γ R := fun G H σ Q w n kk =>
  ⟨.ref u, n.getV e, u, _, (k : Int), .int (s.get k), rfl, rfl, SqL.of w.j.2.1, atI_nat (lst_get hk), kk _ _ G H (Same.refl G) w (.int _) q⟩
theorem de_urn0 (e : Γ[0]? = some (.v (.ref u))) (q : R (.list (cells.map PyData.int))) : DE K (W.urnE K u c cells s) (tOp (rIxL K) (tVar 0) (tC (.int 0))) Γ R := fun G H σ Q w n kk =>
  ⟨.ref u, n.getV e, u, _, 0, .ref c, rfl, rfl, SqL.of w.j.2.1, atI_nat (j := 0) rfl, kk _ _ G H (Same.refl G) w (.lst w.j.2.2.1 (dpA_ints cells)) q⟩
/-- urn[k] = e -/
theorem dsf_urn {k : Nat} (e : Γ[0]? = some (.v (.ref u))) (hW : ¬ W.us u) (hk : 1 ≤ k ∧ k ≤ 4) (h : DE K (W.urnE K u c cells s) te Γ fun d => ∃ v, d = .int v ∧ 0 ≤ (s.put k v).at_ ∧ P.nx (s.put k v) Γ) :
    DSf K (fun s => W.urnE K u c cells s) (tAsg te (gSub (tVar 0) (tC (.int (k : Int))) rSetL)) s Γ P := fun G H σ D w n k1 k2 k3 k4 =>
  h G H σ _ w n fun x d G1 H1 s1 w1 hd ⟨v, ed, ha, q⟩ => by
    subst ed
    cases dp_int hd
    have hl : (s.lst c).length = 5 := rfl
    refine ⟨.ref u, (n.mono s1).getV e, u, s.lst c, (k : Int), k, rfl, rfl, w1.j.2.1, ?_, ?_⟩
    · rw [hl]
      unfold ixN
      rw [if_pos (by omega), if_pos (by omega)]
      simp
    · rw [lst_set hk]
      refine k1 (s.put k v) Γ σ G1 _ s1 ⟨fun b o e => ?_, fun b hb => ?_, ?_, upd_same, w1.j.2.2.1, ha⟩ (n.mono s1) q
      · rw [upd_ne (ne_of_none e (w1.own u (.inr rfl)).1)]
        exact w1.ex b o e
      · obtain ⟨g', o, e⟩ := w1.own b hb
        by_cases hp : b = u
        · subst hp; exact ⟨g', _, upd_same⟩
        · exact ⟨g', o, by rw [upd_ne hp]; exact e⟩
      · exact W.loc (Same.refl G1) (fun b hb => by rw [upd_ne (show b ≠ u from fun z => hW (z ▸ hb))]) w1.j.1
theorem dsf_cut {ι : Type} {Wf : ι → Own} {i : ι} {ts : TS} {P : Pof ι} (I : ι → List Slot → Prop) (h : DSf K Wf ts i Γ { P with nx := I }) (k : ∀ i Γ, I i Γ → P.nx i Γ) : DSf K Wf ts i Γ P := fun G H σ D w n k1 k2 k3 k4 =>
  h G H σ D w n (fun i' Γ' σ' G' H' s' w' n' q => k1 i' Γ' σ' G' H' s' w' n' (k i' Γ' q)) k2 k3 k4
/-- xs[:m] of a list -/
theorem cut_take {xs : List V} {m : Nat} : cutV xs none (some (m : Int)) = xs.take m := by
  unfold cutV
  rw [HT.sIx_none, show HT.sIx xs.length xs.length (some (m : Int)) = min m xs.length from HT.sIx_nat xs.length _ m]
  show (xs.drop 0).take (min m xs.length - 0) = xs.take m
  rw [List.drop_zero, Nat.sub_zero]
  by_cases h : m ≤ xs.length
  · rw [Nat.min_eq_left h]
  · rw [Nat.min_eq_right (by omega), List.take_of_length_le (Nat.le_refl _), List.take_of_length_le (by omega)]
theorem de_takeL {m : Nat} (h : DE K W ta Γ fun d => ∃ ds, d = .list ds ∧ R (.list (ds.take m))) : DE K W (tSl (rSlL K) ta tNoPart (tPart (tC (.int (m : Int))))) Γ R := fun G H σ Q w n k =>
  h G H σ _ w n fun v d G1 H1 s1 w1 hd ⟨ds, e, r⟩ => by
    subst e
    obtain ⟨a, xs, rfl, hs, hA⟩ := dp_lst hd
    refine ⟨(m : Int), rfl, a, xs, rfl, w1.ex.seq hs, fun p hp => ?_⟩
    have hG := w1.ex.free hp
    rw [cut_take]
    exact k _ _ (upd G1 p (.lst (xs.take m))) _ (s1.trans (same_new hG)) (w1.fresh hp) (.lst (SqL.of upd_same) (dpA_mono (same_new hG) _ _ (dpA_take m _ _ hA))) r
/-- xs.index(e), flat -/
def idxV (x : V) (xs : List V) : Option Nat := xs.findIdx? fun y => eqV y x
theorem de_index (h : DE K W ta Γ fun d => ∃ ds, d = .list ds ∧ DE K W tb Γ fun e => ∃ j, fl e = true ∧ ds.all fl = true ∧ idxV (vD e) (ds.map vD) = some j ∧ R (.int (j : Nat))) : DE K W (tBM K "list" (rIndex K) ta (tCons tb tNil)) Γ R := fun G H σ Q w n k =>
  h G H σ _ w n fun v d G1 H1 s1 w1 hd ⟨ds, ed, h2⟩ => by
    subst ed
    obtain ⟨a, xs, rfl, hs, hA⟩ := dp_lst hd
    refine ⟨.inl ⟨rfl, xs, w1.ex.seq hs⟩, h2 G1 H1 σ _ w1 (n.mono s1) fun y e G2 H2 s2 w2 he q => ?_⟩
    obtain ⟨j, f1, f2, hj, r⟩ := q
    cases dp_vD he f1
    cases dpA_vD hA f2
    obtain ⟨hlt, h3, h4⟩ := List.findIdx?_eq_some_iff_getElem.mp hj
    exact ⟨a, ds.map vD, vD e, j, _, rfl, rfl, (s2.trans w2.ex).seq hs, flat_vD e, flats_vD ds, List.getElem?_eq_getElem hlt, h3, fun m z' hm hz => by
      obtain ⟨hl, rfl⟩ := List.getElem?_eq_some_iff.mp hz
      have := h4 m hm
      simpa using this, k _ _ G2 H2 (s1.trans s2) w2 (.int _) r⟩
end
section
variable {P : Program} {w : World} {K : PySem.W.Frag} {mg : Str → Option Value} {base : Heap}
/-- a def that changes the urn itself -/
theorem okUE {x qual : Str} {st : Stmt} {f : Addr} {fd : FuncData} {N ps : List Str} {k : Nat} {S : List PyData → (PyData → Prop) → Prop} (F : Fun K x qual st f fd) (Sc : FnScope N ps (defScope st)) (hl : ∀ ds R, S ds R → ds.length + 1 = ps.length)
    (hb : ∀ (cdv : Value) (A : Around) (outer : List Env) (s : Shared) (H : Hp) (E : XK), Room k (A.deeper (envOfC qual (defScope st) s.heap.objs.size f cdv)) →
      ∃ t, PSs (cxOf CX0 P w K mg base N qual (defScope st) f cdv A outer s H E).nox (defBody st) t ∧ ∀ W u c cells us ds R, ¬ W.us u → cells.length ≤ 100 → 0 ≤ us.at_ → S ds R →
        DSf K (fun s => Own.urnE K W u c cells s) t us (.v (.ref u) :: ds.map Slot.d ++ List.replicate (N.length - ps.length) .no) ⟨fun _ _ => R .none, fun _ => R, fun _ _ => False, fun _ _ => False⟩) : FnOk P w K mg base CX0 (k + 1) f fd ps (spU K S) := by
  refine F.ok Sc (fun vs H Q E h => ?_) (fun cdv A outer s H vs Q E hr h => ?_)
  · obtain ⟨u, vs', W, G, ds, R, rfl, _, _, hA, hs, _⟩ := h
    rw [List.length_cons, dpA_len _ _ hA]
    exact hl ds R hs
  · obtain ⟨u, vs', W, G, ds, R, rfl, hW, wk, hA, hs, kk⟩ := h
    obtain ⟨t, ht, hd⟩ := hb cdv A outer s H E hr
    refine ⟨t, ht, ?_⟩
    have e := en_start (N := N) (Paired.cons (show SlOk K G (some (V.ref u)) (.v (.ref u)) from rfl) (args_of hA))
    rw [List.length_cons, List.length_map, hl ds R hs] at e
    obtain ⟨c, cells, us, w1, hc⟩ := urnE_in wk
    exact hd W u c cells us ds R hW hc w1.j.2.2.2 hs G H _ _ w1 e (fun _ Γ' σ' G' H' s w' _ r => kk .non .none G' H' s (urnE_out hc w') .non r) (fun _ v d G' H' s w' hd r => kk v d G' H' s (urnE_out hc w') hd r) (fun _ _ _ _ _ _ _ _ z => z.elim) (fun _ _ _ _ _ _ _ _ z => z.elim)
end

/-! ### a pool: p + p[-1:] -/
section
variable {K : PySem.W.Frag} {W : Own} {Γ : List Slot} {R : PyData → Prop} {D : Addr} {Wf : List PyData → Own} {es : List PyData} {l : PyData}
theorem de_catLast {j : Nat} (p : PoolW K W D Wf) (e : Γ[j]? = some (.v (.ref D))) (hl : es.length < 100000) (q : R (.list ((es ++ [l]) ++ [l]))) :
    DE K (Wf (es ++ [l])) (tOp rCat (tVar j) (tSl (rSlL K) (tVar j) (tPart (tUn (rU fun i => .int (-i)) (tC (.int 1)))) tNoPart)) Γ R := fun G H σ Q w n kk => by
  obtain ⟨g, xs, h, a⟩ := p.own w
  have hx := dpA_len _ _ a
  rw [List.length_append, List.length_singleton] at hx
  refine ⟨.ref D, n.getV e, .ref D, n.getV e, 1, rfl, _, rfl, D, xs, rfl, SqL.of h, fun b hb => ?_⟩
  have hG := w.ex.free hb
  have hbD : D ≠ b := ne_of_none h hb
  have ec : cutV xs (some (-1)) none = xs.drop (xs.length - 1) := by
    unfold cutV
    have e1 : HT.sIx xs.length 0 (some (-1)) = xs.length - 1 := by
      show (if (-1 : Int) < 0 then ((-1 : Int) + (xs.length : Int)).toNat else min (-1 : Int).toNat xs.length) = _
      rw [if_pos (by decide)]
      omega
    rw [e1, HT.sIx_none]
    exact List.take_of_length_le (by rw [List.length_drop]; omega)
  have ad := dpA_drop (xs.length - 1) _ _ a
  have ee : (es ++ [l]).drop (xs.length - 1) = [l] := by
    rw [hx, Nat.add_sub_cancel, List.drop_left]
  rw [ee] at ad
  refine ⟨D, b, xs, xs.drop (xs.length - 1), rfl, rfl, by rw [upd_ne hbD]; exact h, by rw [← ec]; exact upd_same, ?_, fun c hc => ?_⟩
  · rw [List.length_drop, hx]
    exact Nat.le_trans (show es.length + 1 + (es.length + 1 - (es.length + 1 - 1)) ≤ 200000 by omega) (by decide)
  · have w1 : (Wf (es ++ [l])).Ok (upd G b (.lst (cutV xs (some (-1)) none))) (upd H b (.lst (cutV xs (some (-1)) none))) := w.fresh hb
    have s1 : Same G (upd G b (.lst (cutV xs (some (-1)) none))) := same_new hG
    have hG2 := w1.ex.free hc
    have s2 := s1.trans (same_new (o := .lst (xs ++ xs.drop (xs.length - 1))) hG2)
    exact kk _ _ _ _ s2 (w1.fresh hc) (.lst (SqL.of upd_same) (dpA_app _ _ _ _ (dpA_mono s2 _ _ a) (dpA_mono s2 _ _ ad))) q
end

/-! ### the urn is made -/
def spMk (K : PySem.W.Frag) : Sp := fun vs H Q _ => ∃ (G : Hp) (W : Own) (ns : List Int) (v : V), vs = [v] ∧ W.Ok G H ∧ Dp K G v (.list (ns.map PyData.int)) ∧ ∀ u G' H', Same G G' → ¬ W.us u → (W.urn K u).Ok G' H' → Q (.ref u) H'
section
variable {K : PySem.W.Frag} {W : Own} {Γ : List Slot} {P : Po} {tu : TS} {E : XK}
theorem ds_mkUrn {i j : Nat} {ns : List Int} (e : Γ[j]? = some (.d (.list (ns.map PyData.int)))) (h : ∀ u, ¬ W.us u → DS K (W.urn K u) tu (Γ.set i (.v (.ref u))) P) : DS K W (tSeq (tAsg (tCall (spMk K) [] E (tCons (tVar j) tNil)) (gName i)) tu) Γ P := fun G H σ D w n k1 k2 k3 k4 => by
  obtain ⟨v, ev, hv⟩ := n.get e
  refine ⟨v, ev, G, W, ns, v, rfl, w, hv, fun u G' H' s' hu w' => ?_⟩
  have out : ∀ {G H : Hp}, (W.urn K u).Ok G H → W.Ok G H := fun w => ⟨w.ex, fun a ha => w.own a (.inl ha), w.j.1⟩
  exact h u hu G' H' _ D w' ((n.mono s').set i rfl) (fun Γ' σ' G2 H2 s2 w2 n2 q => k1 Γ' σ' G2 H2 (s'.trans s2) (out w2) n2 q) (fun v d G2 H2 s2 w2 hd q => k2 v d G2 H2 (s'.trans s2) (out w2) hd q)
    (fun Γ' σ' G2 H2 s2 w2 n2 q => k3 Γ' σ' G2 H2 (s'.trans s2) (out w2) n2 q) (fun Γ' σ' G2 H2 s2 w2 n2 q => k4 Γ' σ' G2 H2 (s'.trans s2) (out w2) n2 q)
end
section
variable {P : Program} {w : World} {K : PySem.W.Frag} {mg : Str → Option Value} {base : Heap}
theorem urn_new {G H : Hp} {W : Own} {D : Addr} {xs : List V} {ns : List Int} (hn : ns.length ≤ 100) (w : W.Ok G H) (g : G D = none) (h : H D = some (.lst xs)) (a : DpAll K G xs [.list (ns.map PyData.int), .int 0, .int 0, .int 7, .int 0]) : (W.urn K D).Ok G H := by
  refine ⟨w.ex, fun b hb => ?_, w.j, ?_⟩
  · rcases hb with hb | hb
    · exact w.own b hb
    · subst hb; exact ⟨g, _, h⟩
  · cases a with
    | cons h1 a =>
    cases a with
    | cons h2 a =>
    cases a with
    | cons h3 a =>
    cases a with
    | cons h4 a =>
    cases a with
    | cons h5 a =>
    cases a
    cases dp_int h2
    cases dp_int h3
    cases dp_int h4
    cases dp_int h5
    obtain ⟨c, ys, rfl, hs, hA⟩ := dp_lst h1
    have ey : ys = ns.map V.int := by
      clear h hs h1
      induction ns generalizing ys with
      | nil => cases hA; rfl
      | cons n ns ih =>
        cases hA with
        | cons q1 q2 =>
          cases dp_int q1
          rw [ih (by simp at hn; omega) _ q2]
          rfl
    subst ey
    exact ⟨c, ns, 0, 0, 7, 0, h, hs, Int.le_refl 0, hn⟩
theorem okMk {x qual : Str} {st : Stmt} {f : Addr} {fd : FuncData} {N : List Str} {p : Str} {k : Nat} (F : Fun K x qual st f fd) (Sc : FnScope N [p] (defScope st))
    (hb : ∀ (cdv : Value) (A : Around) (outer : List Env) (s : Shared) (H : Hp) (E : XK), Room k (A.deeper (envOfC qual (defScope st) s.heap.objs.size f cdv)) →
      ∃ te, PSs (cxOf CX0 P w K mg base N qual (defScope st) f cdv A outer s H E).nox (defBody st) (tRet te) ∧ ∀ W ns, EN K W te (.d (.list (List.map PyData.int ns)) :: List.replicate (N.length - 1) .no) fun ds => ∃ ms, ms.length ≤ 100 ∧ ds = [.list (List.map PyData.int ms), .int 0, .int 0, .int 7, .int 0]) : FnOk P w K mg base CX0 (k + 1) f fd [p] (spMk K) := by
  refine F.ok Sc (fun vs H Q E h => ?_) (fun cdv A outer s H vs Q E hr h => ?_)
  · obtain ⟨G, W, ns, v, rfl, _⟩ := h
    rfl
  · obtain ⟨G, W, ns, v, rfl, w0, hv, q⟩ := h
    obtain ⟨te, ht, hd⟩ := hb cdv A outer s H E hr
    refine ⟨_, ht, ?_⟩
    have e := en_start (N := N) (args_of (DpAll.cons hv .nil))
    refine hd W ns G H _ _ w0 e fun D xs ds G1 H1 s1 w1 g1 u1 h1 a1 r => ?_
    obtain ⟨ms, hm, rfl⟩ := r
    exact q D G1 H1 s1 u1 (urn_new hm w1 g1 h1 a1)
end
end DL
set_option Elab.async false
set_option linter.all false
set_option maxRecDepth 100000
set_option maxHeartbeats 4000000
/-! K86M: terms, plainly. -/
namespace KT
open PySem DL
inductive Wd where | wire | cross | copy | drop | add | nought | later
def Wd.s : Wd → Str
  | .wire => "wire" | .cross => "cross" | .copy => "copy" | .drop => "drop" | .add => "add" | .nought => "nought" | .later => "later"
def Wd.sd : Wd → Int × Int
  | .wire => (1, 1) | .cross => (2, 2) | .copy => (1, 2) | .drop => (1, 0) | .add => (2, 1) | .nought => (0, 1) | .later => (1, 1)
inductive Tm where
  | word (w : Wd)
  | times (a b : Int)
  | turned (t : Tm)
  | loop (t : Tm)
  | thn (t u : Tm)
  | bes (t u : Tm)
namespace Tm
def d : Tm → PyData
  | word w => .str w.s
  | times a b => .tuple [.str "times", .tuple [.int a, .int b]]
  | turned t => .tuple [.str "turned", t.d]
  | loop t => .tuple [.str "loop", t.d]
  | thn t u => .tuple [.str "then", t.d, u.d]
  | bes t u => .tuple [.str "beside", t.d, u.d]
def parts : Tm → Nat
  | word _ => 1
  | times _ _ => 1
  | turned t => t.parts + 1
  | loop t => t.parts + 1
  | thn t u => t.parts + u.parts + 1
  | bes t u => t.parts + u.parts + 1
def deep : Tm → Nat
  | word _ => 1
  | times _ _ => 1
  | turned t => t.deep + 1
  | loop t => t.deep + 1
  | thn t u => max t.deep u.deep + 1
  | bes t u => max t.deep u.deep + 1
def sides : Tm → Option (Int × Int)
  | word w => some w.sd
  | times _ _ => some (1, 1)
  | turned t => t.sides.map fun s => (s.2, s.1)
  | loop t => t.sides.bind fun s => if 0 < s.1 ∧ 0 < s.2 then some (s.1 - 1, s.2 - 1) else none
  | thn t u => t.sides.bind fun s => u.sides.bind fun r => if s.2 = r.1 then some (s.1, r.2) else none
  | bes t u => t.sides.bind fun s => u.sides.bind fun r => some (s.1 + r.1, s.2 + r.2)
def kids : Tm → List Tm
  | word _ => []
  | times _ _ => []
  | turned t => [t]
  | loop t => [t]
  | thn t u => [t, u]
  | bes t u => [t, u]
/-- numbers of a ground -/
def numOk (g a b : Int) : Prop := (if 0 < g then 0 ≤ a ∧ a ≤ g - 1 ∧ b = 1 else 0 < b ∧ Nat.gcd a.natAbs b.natAbs = 1) ∧ a.natAbs.log2 < 1920 ∧ b.natAbs.log2 < 1920
def nums (g : Int) : Tm → Prop
  | word _ => True
  | times a b => numOk g a b
  | turned t => t.nums g
  | loop t => t.nums g
  | thn t u => t.nums g ∧ u.nums g
  | bes t u => t.nums g ∧ u.nums g
theorem deep_pos : ∀ t : Tm, 1 ≤ t.deep
  | word _ => Nat.le_refl _
  | times _ _ => Nat.le_refl _
  | turned t => by show 1 ≤ t.deep + 1; omega
  | loop t => by show 1 ≤ t.deep + 1; omega
  | thn t u => by show 1 ≤ max t.deep u.deep + 1; omega
  | bes t u => by show 1 ≤ max t.deep u.deep + 1; omega
theorem parts_pos : ∀ t : Tm, 1 ≤ t.parts
  | word _ => Nat.le_refl _
  | times _ _ => Nat.le_refl _
  | turned t => by show 1 ≤ t.parts + 1; omega
  | loop t => by show 1 ≤ t.parts + 1; omega
  | thn t u => by show 1 ≤ t.parts + u.parts + 1; omega
  | bes t u => by show 1 ≤ t.parts + u.parts + 1; omega
/-- texts -/
def istr (i : Int) : Str := Str.ofString (toString i)
def numT (a b : Int) : Str := if b = 1 then istr a else istr a ++ "/" ++ istr b
def bound : Tm → Nat
  | thn _ _ => 0
  | bes _ _ => 1
  | _ => 2
def par (x : Str) : Str := "(" ++ x ++ ")"
def within (x : Str) (b least : Nat) : Str := if least ≤ b then x else par x
def text : Tm → Str
  | word w => w.s
  | times a b => "times" ++ " " ++ numT a b
  | turned t => within t.text t.bound 2 ++ "'"
  | loop t => "loop" ++ "(" ++ t.text ++ ")"
  | thn t u => within t.text t.bound 0 ++ " ; " ++ within u.text u.bound 1
  | bes t u => within t.text t.bound 1 ++ ", " ++ within u.text u.bound 2
theorem app_len (x y : Str) : (x ++ y).length = x.length + y.length := by
  show (x.cps ++ y.cps).size = x.cps.size + y.cps.size
  exact Array.size_append
theorem istr_len {i : Int} (h : i.natAbs.log2 < 1920) : (istr i).length ≤ 1921 := PyProof.Rows.int_text_len_1921 h
theorem numT_len {a b : Int} (ha : a.natAbs.log2 < 1920) (hb : b.natAbs.log2 < 1920) : (numT a b).length ≤ 4000 := by
  have h1 := istr_len ha
  have h2 := istr_len hb
  have h3 : ("/" : Str).length = 1 := by decide
  unfold numT
  split
  · omega
  · rw [app_len, app_len]
    omega
theorem within_len (x : Str) (b l : Nat) : (within x b l).length ≤ x.length + 2 := by
  have h1 : ("(" : Str).length = 1 := by decide
  have h2 : (")" : Str).length = 1 := by decide
  unfold within
  split
  · omega
  · unfold par
    rw [app_len, app_len]
    omega
theorem s_len (w : Wd) : w.s.length ≤ 6 := by cases w <;> decide
theorem text_len {g : Int} : ∀ t : Tm, t.nums g → t.text.length ≤ 5000 * t.parts
  | word w, _ => by
    have := s_len w
    show w.s.length ≤ 5000 * 1
    omega
  | times a b, h => by
    obtain ⟨_, h1, h2⟩ := h
    have := numT_len h1 h2
    have e1 : ("times" : Str).length = 5 := by decide
    have e2 : (" " : Str).length = 1 := by decide
    show ("times" ++ " " ++ numT a b : Str).length ≤ 5000 * 1
    rw [app_len, app_len]
    omega
  | turned t, h => by
    have := text_len t h
    have h1 := within_len t.text t.bound 2
    have e1 : ("'" : Str).length = 1 := by decide
    show (within t.text t.bound 2 ++ "'" : Str).length ≤ 5000 * (t.parts + 1)
    rw [app_len]
    omega
  | loop t, h => by
    have := text_len t h
    have e1 : ("loop" : Str).length = 4 := by decide
    have e2 : ("(" : Str).length = 1 := by decide
    have e3 : (")" : Str).length = 1 := by decide
    show ("loop" ++ "(" ++ t.text ++ ")" : Str).length ≤ 5000 * (t.parts + 1)
    rw [app_len, app_len, app_len]
    omega
  | thn t u, h => by
    have h1 := text_len t h.1
    have h2 := text_len u h.2
    have h3 := within_len t.text t.bound 0
    have h4 := within_len u.text u.bound 1
    have e1 : (" ; " : Str).length = 3 := by decide
    show (within t.text t.bound 0 ++ " ; " ++ within u.text u.bound 1 : Str).length ≤ 5000 * (t.parts + u.parts + 1)
    rw [app_len, app_len]
    omega
  | bes t u, h => by
    have h1 := text_len t h.1
    have h2 := text_len u h.2
    have h3 := within_len t.text t.bound 1
    have h4 := within_len u.text u.bound 2
    have e1 : (", " : Str).length = 2 := by decide
    show (within t.text t.bound 1 ++ ", " ++ within u.text u.bound 2 : Str).length ≤ 5000 * (t.parts + u.parts + 1)
    rw [app_len, app_len]
    omega
end Tm
end KT
set_option Elab.async false
set_option linter.all false
set_option maxRecDepth 100000
set_option maxHeartbeats 4000000
namespace K86
open PySem PySem.Spec PyProof.Rows L2 DL
def topS (i : Nat) : Stmt := PySem.Challenge.pw_whicheverend_k86_whole_texts_of_terms.main.body.getD i (.Pass ⟨0, 0, 0, 0⟩)
abbrev s_is_integer : Stmt := topS 5
abbrev N_is_integer : List Str := ["thing"]
theorem sc_is_integer : FnScope ["thing"] ["thing"] (defScope s_is_integer) := ⟨rfl, rfl, rfl, by decide +kernel, rfl, by decide +kernel, by decide +kernel⟩
abbrev s_is_within : Stmt := topS 6
abbrev N_is_within : List Str := ["thing", "least", "most"]
theorem sc_is_within : FnScope ["thing", "least", "most"] ["thing", "least", "most"] (defScope s_is_within) := ⟨rfl, rfl, rfl, by decide +kernel, rfl, by decide +kernel, by decide +kernel⟩
abbrev s_is_pair : Stmt := topS 7
abbrev N_is_pair : List Str := ["thing"]
theorem sc_is_pair : FnScope ["thing"] ["thing"] (defScope s_is_pair) := ⟨rfl, rfl, rfl, by decide +kernel, rfl, by decide +kernel, by decide +kernel⟩
abbrev s_is_ground : Stmt := topS 10
abbrev N_is_ground : List Str := ["thing"]
theorem sc_is_ground : FnScope ["thing"] ["thing"] (defScope s_is_ground) := ⟨rfl, rfl, rfl, by decide +kernel, rfl, by decide +kernel, by decide +kernel⟩
abbrev s_check_ground : Stmt := topS 11
abbrev N_check_ground : List Str := ["thing"]
theorem sc_check_ground : FnScope ["thing"] ["thing"] (defScope s_check_ground) := ⟨rfl, rfl, rfl, by decide +kernel, rfl, by decide +kernel, by decide +kernel⟩
abbrev s_divisor : Stmt := topS 12
abbrev N_divisor : List Str := ["one", "other"]
theorem sc_divisor : FnScope ["one", "other"] ["one", "other"] (defScope s_divisor) := ⟨rfl, rfl, rfl, by decide +kernel, rfl, by decide +kernel, by decide +kernel⟩
abbrev s_is_num : Stmt := topS 13
abbrev N_is_num : List Str := ["ground", "thing"]
theorem sc_is_num : FnScope ["ground", "thing"] ["ground", "thing"] (defScope s_is_num) := ⟨rfl, rfl, rfl, by decide +kernel, rfl, by decide +kernel, by decide +kernel⟩
abbrev s_number_text : Stmt := topS 16
abbrev N_number_text : List Str := ["number", "top", "bottom"]
theorem sc_number_text : FnScope ["number", "top", "bottom"] ["number"] (defScope s_number_text) := ⟨rfl, rfl, rfl, by decide +kernel, rfl, by decide +kernel, by decide +kernel⟩
abbrev s_inner_terms : Stmt := topS 22
abbrev N_inner_terms : List Str := ["term"]
theorem sc_inner_terms : FnScope ["term"] ["term"] (defScope s_inner_terms) := ⟨rfl, rfl, rfl, by decide +kernel, rfl, by decide +kernel, by decide +kernel⟩
abbrev s_is_shaped : Stmt := topS 23
abbrev N_is_shaped : List Str := ["ground", "term"]
theorem sc_is_shaped : FnScope ["ground", "term"] ["ground", "term"] (defScope s_is_shaped) := ⟨rfl, rfl, rfl, by decide +kernel, rfl, by decide +kernel, by decide +kernel⟩
abbrev s_is_bounded : Stmt := topS 24
abbrev N_is_bounded : List Str := ["ground", "thing", "waiting", "many", "term", "deep", "inner"]
theorem sc_is_bounded : FnScope ["ground", "thing", "waiting", "many", "term", "deep", "inner"] ["ground", "thing"] (defScope s_is_bounded) := ⟨rfl, rfl, rfl, by decide +kernel, rfl, by decide +kernel, by decide +kernel⟩
abbrev s_joint_sides : Stmt := topS 25
abbrev N_joint_sides : List Str := ["word", "some", "left", "right"]
theorem sc_joint_sides : FnScope ["word", "some", "left", "right"] ["word", "some"] (defScope s_joint_sides) := ⟨rfl, rfl, rfl, by decide +kernel, rfl, by decide +kernel, by decide +kernel⟩
abbrev s_sides_of : Stmt := topS 26
abbrev N_sides_of : List Str := ["term", "some", "inner"]
theorem sc_sides_of : FnScope ["term", "some", "inner"] ["term"] (defScope s_sides_of) := ⟨rfl, rfl, rfl, by decide +kernel, rfl, by decide +kernel, by decide +kernel⟩
abbrev s_is_term_of : Stmt := topS 27
abbrev N_is_term_of : List Str := ["ground", "thing"]
theorem sc_is_term_of : FnScope ["ground", "thing"] ["ground", "thing"] (defScope s_is_term_of) := ⟨rfl, rfl, rfl, by decide +kernel, rfl, by decide +kernel, by decide +kernel⟩
abbrev s_is_term : Stmt := topS 28
abbrev N_is_term : List Str := ["ground", "thing"]
theorem sc_is_term : FnScope ["ground", "thing"] ["ground", "thing"] (defScope s_is_term) := ⟨rfl, rfl, rfl, by decide +kernel, rfl, by decide +kernel, by decide +kernel⟩
abbrev s_bound_of : Stmt := topS 39
abbrev N_bound_of : List Str := ["term"]
theorem sc_bound_of : FnScope ["term"] ["term"] (defScope s_bound_of) := ⟨rfl, rfl, rfl, by decide +kernel, rfl, by decide +kernel, by decide +kernel⟩
abbrev s_text_within : Stmt := topS 40
abbrev N_text_within : List Str := ["term", "least", "found"]
theorem sc_text_within : FnScope ["term", "least", "found"] ["term", "least"] (defScope s_text_within) := ⟨rfl, rfl, rfl, by decide +kernel, rfl, by decide +kernel, by decide +kernel⟩
abbrev s_text_of : Stmt := topS 41
abbrev N_text_of : List Str := ["term", "word"]
theorem sc_text_of : FnScope ["term", "word"] ["term"] (defScope s_text_of) := ⟨rfl, rfl, rfl, by decide +kernel, rfl, by decide +kernel, by decide +kernel⟩
abbrev s_term_text : Stmt := topS 42
abbrev N_term_text : List Str := ["ground", "term"]
theorem sc_term_text : FnScope ["ground", "term"] ["ground", "term"] (defScope s_term_text) := ⟨rfl, rfl, rfl, by decide +kernel, rfl, by decide +kernel, by decide +kernel⟩
abbrev s__law_urn : Stmt := topS 44
abbrev N__law_urn : List Str := ["script", "cell"]
theorem sc__law_urn : FnScope ["script", "cell"] ["script"] (defScope s__law_urn) := ⟨rfl, rfl, rfl, by decide +kernel, rfl, by decide +kernel, by decide +kernel⟩
abbrev s__law_pull : Stmt := topS 45
abbrev N__law_pull : List Str := ["urn", "many", "cell", "figure", "number"]
theorem sc__law_pull : FnScope ["urn", "many", "cell", "figure", "number"] ["urn", "many"] (defScope s__law_pull) := ⟨rfl, rfl, rfl, by decide +kernel, rfl, by decide +kernel, by decide +kernel⟩
abbrev s__law_any : Stmt := topS 46
abbrev N__law_any : List Str := ["urn", "things"]
theorem sc__law_any : FnScope ["urn", "things"] ["urn", "things"] (defScope s__law_any) := ⟨rfl, rfl, rfl, by decide +kernel, rfl, by decide +kernel, by decide +kernel⟩
abbrev s__law_gcd : Stmt := topS 47
abbrev N__law_gcd : List Str := ["one", "other"]
theorem sc__law_gcd : FnScope ["one", "other"] ["one", "other"] (defScope s__law_gcd) := ⟨rfl, rfl, rfl, by decide +kernel, rfl, by decide +kernel, by decide +kernel⟩
abbrev s__law_number : Stmt := topS 48
abbrev N__law_number : List Str := ["ground", "top", "bottom", "part", "one"]
theorem sc__law_number : FnScope ["ground", "top", "bottom", "part", "one"] ["ground", "top", "bottom"] (defScope s__law_number) := ⟨rfl, rfl, rfl, by decide +kernel, rfl, by decide +kernel, by decide +kernel⟩
abbrev s__law_drawn : Stmt := topS 53
abbrev N__law_drawn : List Str := ["urn", "ground"]
theorem sc__law_drawn : FnScope ["urn", "ground"] ["urn", "ground"] (defScope s__law_drawn) := ⟨rfl, rfl, rfl, by decide +kernel, rfl, by decide +kernel, by decide +kernel⟩
abbrev s__law_ground : Stmt := topS 54
abbrev N__law_ground : List Str := ["urn"]
theorem sc__law_ground : FnScope ["urn"] ["urn"] (defScope s__law_ground) := ⟨rfl, rfl, rfl, by decide +kernel, rfl, by decide +kernel, by decide +kernel⟩
abbrev s__law_sides : Stmt := topS 55
abbrev N__law_sides : List Str := ["word", "names"]
theorem sc__law_sides : FnScope ["word", "names"] ["word"] (defScope s__law_sides) := ⟨rfl, rfl, rfl, by decide +kernel, rfl, by decide +kernel, by decide +kernel⟩
abbrev s__law_leaf : Stmt := topS 56
abbrev N__law_leaf : List Str := ["urn", "ground", "names", "word"]
theorem sc__law_leaf : FnScope ["urn", "ground", "names", "word"] ["urn", "ground"] (defScope s__law_leaf) := ⟨rfl, rfl, rfl, by decide +kernel, rfl, by decide +kernel, by decide +kernel⟩
abbrev s__law_over_one : Stmt := topS 57
abbrev N__law_over_one : List Str := ["urn", "one", "term", "left", "right", "parts", "deep"]
theorem sc__law_over_one : FnScope ["urn", "one", "term", "left", "right", "parts", "deep"] ["urn", "one"] (defScope s__law_over_one) := ⟨rfl, rfl, rfl, by decide +kernel, rfl, by decide +kernel, by decide +kernel⟩
abbrev s__law_over_two : Stmt := topS 58
abbrev N__law_over_two : List Str := ["urn", "one", "other", "parts", "deep"]
theorem sc__law_over_two : FnScope ["urn", "one", "other", "parts", "deep"] ["urn", "one", "other"] (defScope s__law_over_two) := ⟨rfl, rfl, rfl, by decide +kernel, rfl, by decide +kernel, by decide +kernel⟩
abbrev s__law_term : Stmt := topS 59
abbrev N__law_term : List Str := ["urn", "ground", "most", "pool", "turn", "one", "other", "kind", "found"]
theorem sc__law_term : FnScope ["urn", "ground", "most", "pool", "turn", "one", "other", "kind", "found"] ["urn", "ground", "most"] (defScope s__law_term) := ⟨rfl, rfl, rfl, by decide +kernel, rfl, by decide +kernel, by decide +kernel⟩
abbrev s__law_number_text : Stmt := topS 60
abbrev N__law_number_text : List Str := ["number"]
theorem sc__law_number_text : FnScope ["number"] ["number"] (defScope s__law_number_text) := ⟨rfl, rfl, rfl, by decide +kernel, rfl, by decide +kernel, by decide +kernel⟩
abbrev s__law_bound : Stmt := topS 61
abbrev N__law_bound : List Str := ["term"]
theorem sc__law_bound : FnScope ["term"] ["term"] (defScope s__law_bound) := ⟨rfl, rfl, rfl, by decide +kernel, rfl, by decide +kernel, by decide +kernel⟩
abbrev s__law_in : Stmt := topS 62
abbrev N__law_in : List Str := ["term", "least", "text"]
theorem sc__law_in : FnScope ["term", "least", "text"] ["term", "least"] (defScope s__law_in) := ⟨rfl, rfl, rfl, by decide +kernel, rfl, by decide +kernel, by decide +kernel⟩
abbrev s__law_text : Stmt := topS 63
abbrev N__law_text : List Str := ["term"]
theorem sc__law_text : FnScope ["term"] ["term"] (defScope s__law_text) := ⟨rfl, rfl, rfl, by decide +kernel, rfl, by decide +kernel, by decide +kernel⟩
abbrev s__law_great : Stmt := topS 64
abbrev N__law_great : List Str := ["urn", "term", "great", "number", "inner"]
theorem sc__law_great : FnScope ["urn", "term", "great", "number", "inner"] ["urn", "term"] (defScope s__law_great) := ⟨rfl, rfl, rfl, by decide +kernel, rfl, by decide +kernel, by decide +kernel⟩
abbrev s_law : Stmt := topS 65
abbrev N_law : List Str := ["script", "urn", "turn", "ground", "term", "told", "one", "other"]
theorem sc_law : FnScope ["script", "urn", "turn", "ground", "term", "told", "one", "other"] ["script"] (defScope s_law) := ⟨rfl, rfl, rfl, by decide +kernel, rfl, by decide +kernel, by decide +kernel⟩
def tab_SIDES (z : Str) : Option PyData := List.lookup z [(("wire" : Str), (.tuple [.int 1, .int 1] : PyData)), (("cross" : Str), (.tuple [.int 2, .int 2] : PyData)), (("copy" : Str), (.tuple [.int 1, .int 2] : PyData)), (("drop" : Str), (.tuple [.int 1, .int 0] : PyData)), (("add" : Str), (.tuple [.int 2, .int 1] : PyData)), (("nought" : Str), (.tuple [.int 0, .int 1] : PyData)), (("later" : Str), (.tuple [.int 1, .int 1] : PyData))]
def tab_JOINTS (z : Str) : Option PyData := List.lookup z [(("turned" : Str), (.int 2 : PyData)), (("then" : Str), (.int 3 : PyData)), (("beside" : Str), (.int 3 : PyData)), (("loop" : Str), (.int 2 : PyData))]
structure Tp (w : World) (K : PySem.W.Frag) (mg : Str → Option Value) : Prop where
  d_is_integer : Df K mg "is_integer" s_is_integer ["thing"]
  d_is_within : Df K mg "is_within" s_is_within ["thing", "least", "most"]
  d_is_pair : Df K mg "is_pair" s_is_pair ["thing"]
  d_is_ground : Df K mg "is_ground" s_is_ground ["thing"]
  d_check_ground : Df K mg "check_ground" s_check_ground ["thing"]
  d_divisor : Df K mg "divisor" s_divisor ["one", "other"]
  d_is_num : Df K mg "is_num" s_is_num ["ground", "thing"]
  d_number_text : Df K mg "number_text" s_number_text ["number"]
  d_inner_terms : Df K mg "inner_terms" s_inner_terms ["term"]
  d_is_shaped : Df K mg "is_shaped" s_is_shaped ["ground", "term"]
  d_is_bounded : Df K mg "is_bounded" s_is_bounded ["ground", "thing"]
  d_joint_sides : Df K mg "joint_sides" s_joint_sides ["word", "some"]
  d_sides_of : Df K mg "sides_of" s_sides_of ["term"]
  d_is_term_of : Df K mg "is_term_of" s_is_term_of ["ground", "thing"]
  d_is_term : Df K mg "is_term" s_is_term ["ground", "thing"]
  d_bound_of : Df K mg "bound_of" s_bound_of ["term"]
  d_text_within : Df K mg "text_within" s_text_within ["term", "least"]
  d_text_of : Df K mg "text_of" s_text_of ["term"]
  d_term_text : Df K mg "term_text" s_term_text ["ground", "term"]
  d__law_urn : Df K mg "_law_urn" s__law_urn ["script"]
  d__law_pull : Df K mg "_law_pull" s__law_pull ["urn", "many"]
  d__law_any : Df K mg "_law_any" s__law_any ["urn", "things"]
  d__law_gcd : Df K mg "_law_gcd" s__law_gcd ["one", "other"]
  d__law_number : Df K mg "_law_number" s__law_number ["ground", "top", "bottom"]
  d__law_drawn : Df K mg "_law_drawn" s__law_drawn ["urn", "ground"]
  d__law_ground : Df K mg "_law_ground" s__law_ground ["urn"]
  d__law_sides : Df K mg "_law_sides" s__law_sides ["word"]
  d__law_leaf : Df K mg "_law_leaf" s__law_leaf ["urn", "ground"]
  d__law_over_one : Df K mg "_law_over_one" s__law_over_one ["urn", "one"]
  d__law_over_two : Df K mg "_law_over_two" s__law_over_two ["urn", "one", "other"]
  d__law_term : Df K mg "_law_term" s__law_term ["urn", "ground", "most"]
  d__law_number_text : Df K mg "_law_number_text" s__law_number_text ["number"]
  d__law_bound : Df K mg "_law_bound" s__law_bound ["term"]
  d__law_in : Df K mg "_law_in" s__law_in ["term", "least"]
  d__law_text : Df K mg "_law_text" s__law_text ["term"]
  d__law_great : Df K mg "_law_great" s__law_great ["urn", "term"]
  d_law : Df K mg "law" s_law ["script"]
  z_isinstance : mg "isinstance" = none
  z_int : mg "int" = none
  z_bool : mg "bool" = none
  z_tuple : mg "tuple" = none
  z_len : mg "len" = none
  z_abs : mg "abs" = none
  z_str : mg "str" = none
  z_list : mg "list" = none
  z_min : mg "min" = none
  z_range : mg "range" = none
  z_max : mg "max" = none
  g_PRIMES : ∃ a, GlK mg "PRIMES" (.ref a) ∧ ∀ G, Dp K G (.ref a) (.tuple [.int 2, .int 3, .int 5, .int 7, .int 11, .int 13, .int 17, .int 19, .int 23, .int 29, .int 31, .int 37, .int 41, .int 43, .int 47, .int 53, .int 59, .int 61, .int 67, .int 71, .int 73, .int 79, .int 83, .int 89, .int 97])
  g_OVER : GlK mg "OVER" (.str "/")
  g_SIDES : ∃ a, GlK mg "SIDES" (.ref a) ∧ KTab K w a tab_SIDES
  g_JOINTS : ∃ a, GlK mg "JOINTS" (.ref a) ∧ KTab K w a tab_JOINTS
  g_MOST_PARTS : GlK mg "MOST_PARTS" (.int 80)
  g_MOST_DEEP : GlK mg "MOST_DEEP" (.int 30)
  g_TIGHT : GlK mg "TIGHT" (.int 2)
  g_LOOSE : GlK mg "LOOSE" (.int 0)
  g_MIDDLE : GlK mg "MIDDLE" (.int 1)
  g_THEN : GlK mg "THEN" (.str "then")
  g_BESIDE : GlK mg "BESIDE" (.str "beside")
  g_TIMES : GlK mg "TIMES" (.str "times")
  g_TURNED : GlK mg "TURNED" (.str "turned")
  g_LOOP : GlK mg "LOOP" (.str "loop")
  g_BLANK : GlK mg "BLANK" (.str " ")
end K86
set_option Elab.async false
set_option linter.all false
set_option maxRecDepth 100000
set_option maxHeartbeats 1000000
namespace K86
open PySem PySem.Spec PyProof.Rows L2 DL KT
local macro_rules | `(tactic| walk_at "dd") => `(tactic| first
  | with_reducible refine dsf_nil ?_ | with_reducible refine dsf_seq ?_ | with_reducible refine dsf_if ?_ | with_reducible refine dsf_lift (ds_set ?_) | with_reducible refine dsf_lift (ds_ret ?_) | with_reducible refine dsf_lift (ds_par ?_)
  | with_reducible refine ds_nil ?_ | with_reducible refine ds_seq ?_ | with_reducible refine ds_ret ?_ | with_reducible refine ds_retN ?_ | with_reducible refine ds_set ?_ | with_reducible refine ds_if ?_ | with_reducible refine ds_drop ?_ | with_reducible refine ds_par ?_
  | ((with_reducible refine' de_var ?h ?_); (case h => rfl)) | ((with_reducible refine' de_c ?h ?_); (case h => rfl))
  | with_reducible refine de_I0 ?_ | with_reducible refine de_B0 ?_ | with_reducible refine de_I ?_ | with_reducible refine de_addStr ?_ | with_reducible refine de_eqS ?_ | with_reducible refine de_neS ?_ | with_reducible refine de_eqD ?_ | with_reducible refine de_neD ?_ | with_reducible refine de_isNo ?_ | with_reducible refine de_isNot ?_
  | with_reducible refine de_ixT ?_ | with_reducible refine de_ixL ?_ | with_reducible refine de_neg ?_ | with_reducible refine de_catT ?_ | with_reducible refine de_tail ?_ | with_reducible refine de_in ?_ | with_reducible refine de_inTab ?_ | with_reducible refine de_ixTab ?_ | with_reducible refine de_tabGet ?_ | with_reducible refine de_inD ?_
  | with_reducible refine de_abs ?_ | with_reducible refine de_int ?_ | with_reducible refine de_intBB ?_ | with_reducible refine de_str ?_ | with_reducible refine de_max ?_ | with_reducible refine de_min ?_ | with_reducible refine de_len ?_ | with_reducible refine de_lenS ?_ | with_reducible refine de_list ?_ | with_reducible refine de_tuple ?_
  | with_reducible refine de_isTup ?_ | with_reducible refine de_isLst ?_ | with_reducible refine de_isStr ?_ | with_reducible refine de_isBool ?_ | with_reducible refine de_isInt ?_
  | with_reducible refine de_tup ?_ | with_reducible refine de_lst ?_ | with_reducible refine de_call ?_ | ((with_reducible refine' de_callU ?h ?_); (case h => assumption))
  | with_reducible refine da_nil ?_ | ((with_reducible refine' da_consV ?h ?_); (case h => rfl)) | with_reducible refine da_cons ?_
  | with_reducible refine dt_test ?_ | with_reducible refine dt_B ?_ | with_reducible refine dt_not ?_ | with_reducible refine dt_and ?_ | with_reducible refine dt_or ?_
  | with_reducible refine de_andV ?_ | with_reducible refine de_orV ?_ | with_reducible refine de_notV ?_ | with_reducible refine de_if ?_
  | with_reducible refine de_chain od_B0 od_B0 ?_ | with_reducible refine dt_yes ?_
  | ((with_reducible refine' iteB ?h ?_); (case h => rfl)) | ((with_reducible refine' iteN ?h ?_); (case h => rfl))
  | refine ⟨_, _, _, rfl, rfl, rfl, ?_⟩ | refine ⟨_, _, rfl, rfl, True.intro, ?_⟩ | refine ⟨Nat.le_of_ble_eq_true rfl, ?_⟩ | refine ⟨_, .inl rfl, rfl, rfl, ?_⟩ | refine ⟨_, .inl rfl, ?_⟩ | refine ⟨_, .inr rfl, ?_⟩ | refine ⟨_, rfl, ?_⟩ | refine ⟨rfl, rfl, ?_⟩ | refine ⟨_, _, rfl, rfl, ?_⟩ | refine ⟨_, _, rfl, ?_⟩ | refine ⟨_, _, _, rfl, ?_⟩ | refine ⟨rfl, ?_⟩)

/-! ### checks -/
def isInt : PyData → Bool | .int _ => true | _ => false
theorem isInt_eq (d : PyData) : (isIntB d && !isBool d) = isInt d := by cases d <;> rfl
def S_is_integer (ds : List PyData) (R : PyData → Prop) : Prop := ∃ d, ds = [d] ∧ R (.bool (isInt d))
section
variable {P : Program} {w : World} {K : PySem.W.Frag} {mg : Str → Option Value} {base : Heap}
theorem R_eq {R : PyData → Prop} {d e : PyData} (r : R d) (h : d = e) : R e := h ▸ r
theorem c_is_integer (T : Tp w K mg) : Callee P w K mg base 1 "is_integer" ["thing"] (spD K S_is_integer) := T.d_is_integer.callee fun f fd F =>
  okD F sc_is_integer (fun ds R h => by obtain ⟨_, rfl, _⟩ := h; rfl) fun cdv A outer s H E hr => ⟨_, (pss_one (ps_ret (pe_and (pe_callB call_isi (by rfl) T.z_isinstance (by decide +kernel) (pa_cons (pv 0) (pa_cons (pe_bltn (v := .ty "int") (by rfl) T.z_int (by decide +kernel) rfl) pa_nil))) (pe_one (pe_not (pe_callB call_isi (by rfl) T.z_isinstance (by decide +kernel) (pa_cons (pv 0) (pa_cons (pe_bltn (v := .ty "bool") (by rfl) T.z_bool (by decide +kernel) rfl) pa_nil)))))))), fun W ds R h => by
    obtain ⟨d, rfl, r⟩ := h
    try dsimp only [cxOf]
    refine (show DS K W _ [.d d] _ from ?_)
    rw [← isInt_eq] at r
    cases d <;> (repeat walk_at "dd") <;> exact r⟩
def inB (d : PyData) (a b : Int) : Bool := match d with | .int i => decide (a ≤ i) && decide (i ≤ b) | _ => false
def S_is_within (ds : List PyData) (R : PyData → Prop) : Prop := ∃ d a b, ds = [d, .int a, .int b] ∧ R (.bool (inB d a b))
theorem c_is_within (T : Tp w K mg) (C_is_integer : Callee P w K mg base 1 "is_integer" ["thing"] (spD K S_is_integer)) : Callee P w K mg base 2 "is_within" ["thing", "least", "most"] (spD K S_is_within) := T.d_is_within.callee fun f fd F =>
  okD F sc_is_within (fun ds R h => by obtain ⟨_, _, _, rfl, _⟩ := h; rfl) fun cdv A outer s H E hr => ⟨_, (pss_one (ps_ret (pe_and (pe_cl C_is_integer (hr.mono (by omega)) (by rfl) (pa_cons (pv 0) pa_nil)) (pe_one (pe_chain op_le op_le (pv 1) (pv 0) (pv 2)))))), fun W ds R h => by
    obtain ⟨d, a, b, rfl, r⟩ := h
    try dsimp only [cxOf]
    refine (show DS K W _ [.d d, .d (.int a), .d (.int b)] _ from ?_)
    cases d with
    | int i =>
      repeat walk_at "dd"
      refine ite2 (fun c => ?_) (fun c => ?_)
      · repeat walk_at "dd"
        exact R_eq r (by simp [inB, of_decide_eq_true c])
      · exact R_eq r (by have : ¬ a ≤ i := fun z => c (decide_eq_true z)
                         simp [inB, this])
    | _ => (repeat walk_at "dd") <;> exact r⟩
def isPair : PyData → Bool | .tuple [_, _] => true | _ => false
def S_is_pair (ds : List PyData) (R : PyData → Prop) : Prop := ∃ d, ds = [d] ∧ R (.bool (isPair d))
theorem isPair_len {xs : List PyData} : ((xs.length : Int) == 2) = isPair (.tuple xs) := by
  rcases xs with _ | ⟨x, _ | ⟨y, _ | ⟨z, xs⟩⟩⟩ <;> first | rfl | (simp [isPair]; omega)
theorem c_is_pair (T : Tp w K mg) : Callee P w K mg base 1 "is_pair" ["thing"] (spD K S_is_pair) := T.d_is_pair.callee fun f fd F =>
  okD F sc_is_pair (fun ds R h => by obtain ⟨_, rfl, _⟩ := h; rfl) fun cdv A outer s H E hr => ⟨_, (pss_one (ps_ret (pe_and (pe_callB call_isi (by rfl) T.z_isinstance (by decide +kernel) (pa_cons (pv 0) (pa_cons (pe_bltn (v := .ty "tuple") (by rfl) T.z_tuple (by decide +kernel) rfl) pa_nil))) (pe_one (pe_cmpR (op_eqD hr.units) (pe_callB cb_len (by rfl) T.z_len (by decide +kernel) (pa_cons (pv 0) pa_nil)) pe_int (nomark _)))))), fun W ds R h => by
    obtain ⟨d, rfl, r⟩ := h
    try dsimp only [cxOf]
    refine (show DS K W _ [.d d] _ from ?_)
    cases d with
    | tuple xs =>
      repeat walk_at "dd"
      exact R_eq r (congrArg PyData.bool isPair_len.symm)
    | _ => (repeat walk_at "dd") <;> exact r⟩
/-! ### numbers -/
def primes : List Int := [2, 3, 5, 7, 11, 13, 17, 19, 23, 29, 31, 37, 41, 43, 47, 53, 59, 61, 67, 71, 73, 79, 83, 89, 97]
def isGr : PyData → Bool | .int i => i == 0 || primes.contains i | _ => false
theorem inV_ints (i : Int) (ns : List Int) : inV (vD (.int i)) ((ns.map PyData.int).map vD) = ns.contains i := by
  induction ns with
  | nil => rfl
  | cons n ns ih =>
    rw [List.contains_cons]
    show (eqV (.int n) (.int i) || inV (vD (.int i)) ((ns.map PyData.int).map vD)) = _
    rw [ih]
    congr 1
    show decide (n = i) = (i == n)
    by_cases e : n = i
    · subst e; simp
    · rw [decide_eq_false e]
      exact (beq_eq_false_iff_ne.mpr (fun z => e z.symm)).symm
def S_is_ground (ds : List PyData) (R : PyData → Prop) : Prop := ∃ d, ds = [d] ∧ R (.bool (isGr d))
theorem c_is_ground (T : Tp w K mg) (C_is_integer : Callee P w K mg base 1 "is_integer" ["thing"] (spD K S_is_integer)) : Callee P w K mg base 2 "is_ground" ["thing"] (spD K S_is_ground) := T.d_is_ground.callee fun f fd F => by
  obtain ⟨a_PRIMES, g_PRIMES, h_PRIMES⟩ := T.g_PRIMES
  exact okD F sc_is_ground (fun ds R h => by obtain ⟨_, rfl, _⟩ := h; rfl) fun cdv A outer s H E hr => ⟨_, (pss_one (ps_ret (pe_and (pe_cl C_is_integer (hr.mono (by omega)) (by rfl) (pa_cons (pv 0) pa_nil)) (pe_one (pe_or (pe_cmpR (op_eqD hr.units) (pv 0) pe_int (nomark _)) (pe_one (pe_cmpR op_in_seq (pv 0) (pe_gk g_PRIMES rfl) (by rfl)))))))), fun W ds R h => by
    obtain ⟨d, rfl, r⟩ := h
    try dsimp only [cxOf]
    refine (show DS K W _ [.d d] _ from ?_)
    cases d with
    | int i =>
      repeat walk_at "dd"
      refine ite2 (fun c => ?_) (fun c => ?_)
      · exact R_eq r (by rw [show isGr (.int i) = ((i == 0) || primes.contains i) from rfl, show (i == 0) = true from c]; rfl)
      · repeat walk_at "dd"
        refine de_k h_PRIMES ?_
        refine ⟨_, .inl rfl, rfl, rfl, ?_⟩
        exact R_eq r (by
          rw [show isGr (.int i) = ((i == 0) || primes.contains i) from rfl, show (i == 0) = false from Bool.eq_false_iff.mpr c, Bool.false_or]
          exact congrArg PyData.bool (inV_ints i primes).symm)
    | _ => (repeat walk_at "dd") <;> exact r⟩
def S_check_ground (ds : List PyData) (R : PyData → Prop) : Prop := ∃ d, ds = [d] ∧ isGr d = true ∧ R .none
theorem c_check_ground (T : Tp w K mg) (C_is_ground : Callee P w K mg base 2 "is_ground" ["thing"] (spD K S_is_ground)) : Callee P w K mg base 3 "check_ground" ["thing"] (spD K S_check_ground) := T.d_check_ground.callee fun f fd F =>
  okD F sc_check_ground (fun ds R h => by obtain ⟨_, rfl, _⟩ := h; rfl) fun cdv A outer s H E hr => ⟨_, (pss_one (ps_if (pt_not (pt_val (pe_cl C_is_ground (hr.mono (by omega)) (by rfl) (pa_cons (pv 0) pa_nil)))) (pss_one ps_never) pss_nil)), fun W ds R h => by
    obtain ⟨d, rfl, hg, r⟩ := h
    try dsimp only [cxOf]
    refine (show DS K W _ [.d d] _ from ?_)
    repeat walk_at "dd"
    rw [hg]
    repeat walk_at "dd"
    exact r⟩
def S_divisor (ds : List PyData) (R : PyData → Prop) : Prop := ∃ a b : Int, ds = [.int a, .int b] ∧ 0 ≤ a ∧ 0 ≤ b ∧ R (.int (Nat.gcd a.natAbs b.natAbs : Nat))
theorem gcd_turn {x y : Int} (hx : 0 ≤ x) (hy : 0 < y) : Nat.gcd y.natAbs (x % y).natAbs = Nat.gcd x.natAbs y.natAbs := by
  have e : (x % y).natAbs = x.natAbs % y.natAbs := by
    rw [← Int.natAbs_of_nonneg hx, ← Int.natAbs_of_nonneg (Int.le_of_lt hy)]
    rfl
  rw [e, Nat.gcd_comm x.natAbs, Nat.gcd_rec y.natAbs x.natAbs, Nat.gcd_comm]
theorem c_divisor (T : Tp w K mg) : Callee P w K mg base 1 "divisor" ["one", "other"] (spD K S_divisor) := T.d_divisor.callee fun f fd F =>
  okD F sc_divisor (fun ds R h => by obtain ⟨_, _, rfl, _⟩ := h; rfl) fun cdv A outer s H E hr => ⟨_, (pss_cons (ps_while PassesOwn.never (pt_cmpR op_gt (pv 1) pe_int (nomark _)) (pss_one (ps_par (i := 0) (j := 1) (by rfl) sc_divisor.nd rfl rfl (by decide) rfl rfl (pa_cons (pv 1) (pa_cons (pe_op op_mod (pv 0) (pv 1)) pa_nil)) (by rfl)))) (pss_one (ps_ret (pv 0)))), fun W ds R h => by
    obtain ⟨a, b, rfl, ha, hb, r⟩ := h
    try dsimp only [cxOf]
    refine (show DS K W _ [.d (.int a), .d (.int b)] _ from ?_)
    refine ds_seq ?_
    refine ds_while (fun m Γ => ∃ x y : Int, Γ = [.d (.int x), .d (.int y)] ∧ 0 ≤ x ∧ 0 ≤ y ∧ m = y.toNat ∧ Nat.gcd x.natAbs y.natAbs = Nat.gcd a.natAbs b.natAbs) b.toNat ⟨a, b, rfl, ha, hb, rfl, rfl⟩ fun m Γ' h => ?_
    obtain ⟨x, y, rfl, hx, hy, rfl, e⟩ := h
    repeat walk_at "dd"
    refine ite2 (fun c => ?_) (fun c => ?_)
    · have c' : 0 < y := of_decide_eq_true c
      repeat walk_at "dd"
      refine ⟨c', ?_⟩
      repeat walk_at "dd"
      refine ⟨(x % y).toNat, ?_, y, x % y, rfl, hy, Int.emod_nonneg _ (by omega), rfl, ?_⟩
      · have := Int.emod_lt_of_pos x c'
        have := Int.emod_nonneg x (show y ≠ 0 by omega)
        omega
      · rw [gcd_turn hx c', e]
    · have c' : y = 0 := by
        have : ¬ 0 < y := fun z => c (decide_eq_true z)
        omega
      subst c'
      repeat walk_at "dd"
      exact R_eq r (by
        rw [← e]
        simp
        omega)⟩
end
end K86
set_option Elab.async false
set_option linter.all false
set_option maxRecDepth 100000
set_option maxHeartbeats 1000000
namespace K86
open PySem PySem.Spec PyProof.Rows L2 DL KT
local macro_rules | `(tactic| walk_at "dd") => `(tactic| first
  | with_reducible refine dsf_nil ?_ | with_reducible refine dsf_seq ?_ | with_reducible refine dsf_if ?_ | with_reducible refine dsf_lift (ds_set ?_) | with_reducible refine dsf_lift (ds_ret ?_) | with_reducible refine dsf_lift (ds_par ?_)
  | with_reducible refine ds_nil ?_ | with_reducible refine ds_seq ?_ | with_reducible refine ds_ret ?_ | with_reducible refine ds_retN ?_ | with_reducible refine ds_set ?_ | with_reducible refine ds_if ?_ | with_reducible refine ds_drop ?_ | with_reducible refine ds_par ?_
  | ((with_reducible refine' de_var ?h ?_); (case h => rfl)) | ((with_reducible refine' de_c ?h ?_); (case h => rfl))
  | with_reducible refine de_I0 ?_ | with_reducible refine de_B0 ?_ | with_reducible refine de_I ?_ | with_reducible refine de_addStr ?_ | with_reducible refine de_eqS ?_ | with_reducible refine de_neS ?_ | with_reducible refine de_eqD ?_ | with_reducible refine de_neD ?_ | with_reducible refine de_isNo ?_ | with_reducible refine de_isNot ?_
  | with_reducible refine de_ixT ?_ | with_reducible refine de_ixL ?_ | with_reducible refine de_neg ?_ | with_reducible refine de_catT ?_ | with_reducible refine de_tail ?_ | with_reducible refine de_in ?_ | with_reducible refine de_inTab ?_ | with_reducible refine de_ixTab ?_ | with_reducible refine de_tabGet ?_ | with_reducible refine de_inD ?_
  | with_reducible refine de_abs ?_ | with_reducible refine de_int ?_ | with_reducible refine de_intBB ?_ | with_reducible refine de_str ?_ | with_reducible refine de_max ?_ | with_reducible refine de_min ?_ | with_reducible refine de_len ?_ | with_reducible refine de_lenS ?_ | with_reducible refine de_list ?_ | with_reducible refine de_tuple ?_
  | with_reducible refine de_isTup ?_ | with_reducible refine de_isLst ?_ | with_reducible refine de_isStr ?_ | with_reducible refine de_isBool ?_ | with_reducible refine de_isInt ?_
  | with_reducible refine de_tup ?_ | with_reducible refine de_lst ?_ | with_reducible refine de_call ?_ | ((with_reducible refine' de_callU ?h ?_); (case h => assumption))
  | with_reducible refine da_nil ?_ | ((with_reducible refine' da_consV ?h ?_); (case h => rfl)) | with_reducible refine da_cons ?_
  | with_reducible refine dt_test ?_ | with_reducible refine dt_B ?_ | with_reducible refine dt_not ?_ | with_reducible refine dt_and ?_ | with_reducible refine dt_or ?_
  | with_reducible refine de_andV ?_ | with_reducible refine de_orV ?_ | with_reducible refine de_notV ?_ | with_reducible refine de_if ?_
  | with_reducible refine de_chain od_B0 od_B0 ?_ | with_reducible refine dt_yes ?_
  | ((with_reducible refine' iteB ?h ?_); (case h => rfl)) | ((with_reducible refine' iteN ?h ?_); (case h => rfl))
  | refine ⟨_, _, _, rfl, rfl, rfl, ?_⟩ | refine ⟨_, _, rfl, rfl, True.intro, ?_⟩ | refine ⟨Nat.le_of_ble_eq_true rfl, ?_⟩ | refine ⟨_, .inl rfl, rfl, rfl, ?_⟩ | refine ⟨_, .inl rfl, ?_⟩ | refine ⟨_, .inr rfl, ?_⟩ | refine ⟨_, rfl, ?_⟩ | refine ⟨rfl, rfl, ?_⟩ | refine ⟨_, _, rfl, rfl, ?_⟩ | refine ⟨_, _, rfl, ?_⟩ | refine ⟨_, _, _, rfl, ?_⟩ | refine ⟨rfl, ?_⟩)

section
variable {P : Program} {w : World} {K : PySem.W.Frag} {mg : Str → Option Value} {base : Heap}
theorem isPair_inv {d : PyData} (h : isPair d = true) : ∃ x y, d = .tuple [x, y] := by
  cases d with
  | tuple xs => rcases xs with _ | ⟨x, _ | ⟨y, _ | ⟨z, xs⟩⟩⟩ <;> first | exact ⟨_, _, rfl⟩ | cases h
  | _ => cases h
theorem isInt_inv {d : PyData} (h : isInt d = true) : ∃ i, d = .int i := by
  cases d <;> first | exact ⟨_, rfl⟩ | cases h
def numB (g a b : Int) : Bool := if 0 < g then (decide (0 ≤ a) && decide (a ≤ g - 1)) && (b == 1) else decide (0 < b) && (((Nat.gcd a.natAbs b.natAbs : Nat) : Int) == 1)
def isNum (g : Int) : PyData → Bool
  | .tuple [.int a, .int b] => numB g a b
  | _ => false
theorem isNum_x {g : Int} {x y : PyData} (h : isInt x = false) : isNum g (.tuple [x, y]) = false := by cases x <;> first | rfl | cases h
theorem isNum_y {g : Int} {x y : PyData} (h : isInt y = false) : isNum g (.tuple [x, y]) = false := by cases x <;> cases y <;> first | rfl | cases h
theorem isNum_p {g : Int} {d : PyData} (h : isPair d = false) : isNum g d = false := by
  cases d with
  | tuple xs => rcases xs with _ | ⟨x, _ | ⟨y, _ | ⟨z, xs⟩⟩⟩ <;> first | rfl | (cases x <;> rfl) | (cases x <;> cases y <;> rfl) | cases h
  | _ => rfl
def S_is_num (ds : List PyData) (R : PyData → Prop) : Prop := ∃ g d, ds = [.int g, d] ∧ R (.bool (isNum g d))
theorem c_is_num (T : Tp w K mg) (C_is_integer : Callee P w K mg base 1 "is_integer" ["thing"] (spD K S_is_integer)) (C_is_pair : Callee P w K mg base 1 "is_pair" ["thing"] (spD K S_is_pair))
    (C_is_within : Callee P w K mg base 2 "is_within" ["thing", "least", "most"] (spD K S_is_within)) (C_divisor : Callee P w K mg base 1 "divisor" ["one", "other"] (spD K S_divisor)) :
    Callee P w K mg base 3 "is_num" ["ground", "thing"] (spD K S_is_num) := T.d_is_num.callee fun f fd F =>
  okD F sc_is_num (fun ds R h => by obtain ⟨_, _, rfl, _⟩ := h; rfl) fun cdv A outer s H E hr => ⟨_, (pss_cons (ps_if (PW.pt (pw_or (pt_not (pt_val (pe_cl C_is_pair (hr.mono (by omega)) (by rfl) (pa_cons (pv 1) pa_nil)))) (pw_or (pt_not (pt_val (pe_cl C_is_integer (hr.mono (by omega)) (by rfl) (pa_cons (pe_ix ix_tup (pv 1) pe_int (fun _ _ => rfl)) pa_nil)))) (pw_or1 (pt_not (pt_val (pe_cl C_is_integer (hr.mono (by omega)) (by rfl) (pa_cons (pe_ix ix_tup (pv 1) pe_int (fun _ _ => rfl)) pa_nil)))))))) (pss_one (ps_ret pe_bl)) pss_nil) (pss_cons (ps_if (pt_cmpR op_gt (pv 0) pe_int (nomark _)) (pss_one (ps_ret (pe_and (pe_cl C_is_within (hr.mono (by omega)) (by rfl) (pa_cons (pe_ix ix_tup (pv 1) pe_int (fun _ _ => rfl)) (pa_cons pe_int (pa_cons (pe_op op_sub (pv 0) pe_int) pa_nil)))) (pe_one (pe_cmpR (op_eqD hr.units) (pe_ix ix_tup (pv 1) pe_int (fun _ _ => rfl)) pe_int (nomark _)))))) pss_nil) (pss_one (ps_ret (pe_and (pe_cmpR op_gt (pe_ix ix_tup (pv 1) pe_int (fun _ _ => rfl)) pe_int (nomark _)) (pe_one (pe_cmpR (op_eqD hr.units) (pe_cl C_divisor (hr.mono (by omega)) (by rfl) (pa_cons (pe_callB cb_abs (by rfl) T.z_abs (by decide +kernel) (pa_cons (pe_ix ix_tup (pv 1) pe_int (fun _ _ => rfl)) pa_nil)) (pa_cons (pe_ix ix_tup (pv 1) pe_int (fun _ _ => rfl)) pa_nil))) pe_int (nomark _)))))))), fun W ds R h => by
    obtain ⟨g, d, rfl, r⟩ := h
    try dsimp only [cxOf]
    refine (show DS K W _ [.d (.int g), .d d] _ from ?_)
    cases hp : isPair d with
    | false =>
      repeat walk_at "dd"
      rw [hp]
      repeat walk_at "dd"
      exact R_eq r (by rw [isNum_p hp])
    | true =>
      obtain ⟨x, y, rfl⟩ := isPair_inv hp
      cases hx : isInt x with
      | false =>
        repeat walk_at "dd"
        rw [hx]
        repeat walk_at "dd"
        exact R_eq r (by rw [isNum_x hx])
      | true =>
        obtain ⟨a, rfl⟩ := isInt_inv hx
        cases hy : isInt y with
        | false =>
          repeat walk_at "dd"
          rw [hy]
          repeat walk_at "dd"
          exact R_eq r (by rw [isNum_y hy])
        | true =>
          obtain ⟨b, rfl⟩ := isInt_inv hy
          have r' : R (.bool (numB g a b)) := r
          unfold numB at r'
          repeat walk_at "dd"
          refine ite2 (fun c => ?_) (fun c => ?_)
          · rw [if_pos (of_decide_eq_true c)] at r'
            repeat walk_at "dd"
            refine ite2 (fun c2 => ?_) (fun c2 => ?_)
            · repeat walk_at "dd"
              exact R_eq r' (by rw [show (decide (0 ≤ a) && decide (a ≤ g - 1)) = true from c2]; rfl)
            · exact R_eq r' (by rw [show (decide (0 ≤ a) && decide (a ≤ g - 1)) = false from Bool.eq_false_iff.mpr c2]; rfl)
          · rw [if_neg (fun z => c (decide_eq_true z))] at r'
            repeat walk_at "dd"
            refine ite2 (fun c2 => ?_) (fun c2 => ?_)
            · have c3 : 0 < b := of_decide_eq_true c2
              repeat walk_at "dd"
              refine ⟨by omega, by omega, ?_⟩
              repeat walk_at "dd"
              exact R_eq r' (by rw [show decide (0 < b) = true from c2]; rfl)
            · exact R_eq r' (by rw [show decide (0 < b) = false from Bool.eq_false_iff.mpr c2]; rfl)⟩
def S_number_text (ds : List PyData) (R : PyData → Prop) : Prop := ∃ a b : Int, ds = [.tuple [.int a, .int b]] ∧ a.natAbs.log2 < 1920 ∧ b.natAbs.log2 < 1920 ∧ R (.str (Tm.numT a b))
theorem line5 {n : Nat} (h : n ≤ 5000000) : n ≤ sizeLine := Nat.le_trans h (by decide)
theorem c_number_text (T : Tp w K mg) : Callee P w K mg base 1 "number_text" ["number"] (spD K S_number_text) := T.d_number_text.callee fun f fd F =>
  okD F sc_number_text (fun ds R h => by obtain ⟨_, _, rfl, _⟩ := h; rfl) fun cdv A outer s H E hr => ⟨_, (pss_cons (ps_asg (pv 0) (pg_tup rfl (pgs_cons (pg_name (i := 1) sc_number_text.nd rfl (.inl rfl)) (pgs_cons (pg_name (i := 2) sc_number_text.nd rfl (.inl rfl)) pgs_nil)))) (pss_one (ps_ret (pe_ifExp (pt_cmpR (op_eqD hr.units) (pv 2) pe_int (nomark _)) (pe_callTy cb_str (by rfl) T.z_str (by decide +kernel) (pa_cons (pv 1) pa_nil)) (pe_op op_addStr (pe_op op_addStr (pe_callTy cb_str (by rfl) T.z_str (by decide +kernel) (pa_cons (pv 1) pa_nil)) (pe_gk T.g_OVER rfl)) (pe_callTy cb_str (by rfl) T.z_str (by decide +kernel) (pa_cons (pv 2) pa_nil))))))), fun W ds R h => by
    obtain ⟨a, b, rfl, ha, hb, r⟩ := h
    try dsimp only [cxOf]
    refine (show DS K W _ [.d (.tuple [.int a, .int b]), .no, .no] _ from ?_)
    have l1 := Tm.istr_len ha
    have l2 := Tm.istr_len hb
    have l3 : ("/" : Str).length = 1 := by decide
    refine ds_seq (ds_tgt (d := .tuple [.int a, .int b]) ?_)
    walk_at "dd"
    refine dg_tup [1, 2] rfl rfl rfl ?_
    refine (show DS K W _ [.d (.tuple [.int a, .int b]), .d (.int a), .d (.int b)] _ from ?_)
    repeat walk_at "dd"
    refine ite2 (fun c => ?_) (fun c => ?_)
    · repeat walk_at "dd"
      refine ⟨ha, ?_⟩
      exact R_eq r (by rw [show Tm.numT a b = Tm.istr a from if_pos (eq_of_beq c)]; rfl)
    · repeat walk_at "dd"
      refine ⟨ha, ?_⟩
      repeat walk_at "dd"
      refine ⟨line5 ?_, ?_⟩
      · show (Tm.istr a).length + ("/" : Str).length ≤ _
        omega
      repeat walk_at "dd"
      refine ⟨hb, ?_⟩
      repeat walk_at "dd"
      refine ⟨line5 ?_, ?_⟩
      · show (Tm.istr a ++ "/" : Str).length + (Tm.istr b).length ≤ _
        rw [Tm.app_len]
        omega
      exact R_eq r (by rw [show Tm.numT a b = Tm.istr a ++ "/" ++ Tm.istr b from if_neg (fun z => c (by rw [z]; rfl))]; rfl)⟩
end
end K86
set_option Elab.async false
set_option linter.all false
set_option maxRecDepth 100000
set_option maxHeartbeats 1000000
namespace K86
open PySem PyProof.Rows L2 DL KT
local macro_rules | `(tactic| walk_at "dd") => `(tactic| first
  | with_reducible refine dsf_nil ?_ | with_reducible refine dsf_seq ?_ | with_reducible refine dsf_if ?_ | with_reducible refine dsf_lift (ds_set ?_) | with_reducible refine dsf_lift (ds_ret ?_) | with_reducible refine dsf_lift (ds_par ?_)
  | with_reducible refine ds_nil ?_ | with_reducible refine ds_seq ?_ | with_reducible refine ds_ret ?_ | with_reducible refine ds_retN ?_ | with_reducible refine ds_set ?_ | with_reducible refine ds_if ?_ | with_reducible refine ds_drop ?_ | with_reducible refine ds_par ?_
  | ((with_reducible refine' de_var ?h ?_); (case h => rfl)) | ((with_reducible refine' de_c ?h ?_); (case h => rfl))
  | with_reducible refine de_I0 ?_ | with_reducible refine de_B0 ?_ | with_reducible refine de_I ?_ | with_reducible refine de_addStr ?_ | with_reducible refine de_eqS ?_ | with_reducible refine de_neS ?_ | with_reducible refine de_eqD ?_ | with_reducible refine de_neD ?_ | with_reducible refine de_isNo ?_ | with_reducible refine de_isNot ?_
  | with_reducible refine de_ixT ?_ | with_reducible refine de_ixL ?_ | with_reducible refine de_neg ?_ | with_reducible refine de_catT ?_ | with_reducible refine de_tail ?_ | with_reducible refine de_in ?_ | with_reducible refine de_inTab ?_ | with_reducible refine de_ixTab ?_ | with_reducible refine de_tabGet ?_ | with_reducible refine de_inD ?_
  | with_reducible refine de_abs ?_ | with_reducible refine de_int ?_ | with_reducible refine de_intBB ?_ | with_reducible refine de_str ?_ | with_reducible refine de_max ?_ | with_reducible refine de_min ?_ | with_reducible refine de_len ?_ | with_reducible refine de_lenS ?_ | with_reducible refine de_list ?_ | with_reducible refine de_tuple ?_
  | with_reducible refine de_isTup ?_ | with_reducible refine de_isLst ?_ | with_reducible refine de_isStr ?_ | with_reducible refine de_isBool ?_ | with_reducible refine de_isInt ?_
  | with_reducible refine de_tup ?_ | with_reducible refine de_lst ?_ | with_reducible refine de_call ?_ | ((with_reducible refine' de_callU ?h ?_); (case h => assumption))
  | with_reducible refine da_nil ?_ | ((with_reducible refine' da_consV ?h ?_); (case h => rfl)) | with_reducible refine da_cons ?_
  | with_reducible refine dt_test ?_ | with_reducible refine dt_B ?_ | with_reducible refine dt_not ?_ | with_reducible refine dt_and ?_ | with_reducible refine dt_or ?_
  | with_reducible refine de_andV ?_ | with_reducible refine de_orV ?_ | with_reducible refine de_notV ?_ | with_reducible refine de_if ?_
  | with_reducible refine de_chain od_B0 od_B0 ?_ | with_reducible refine dt_yes ?_
  | ((with_reducible refine' iteB ?h ?_); (case h => rfl)) | ((with_reducible refine' iteN ?h ?_); (case h => rfl))
  | refine ⟨_, _, _, rfl, rfl, rfl, ?_⟩ | refine ⟨_, _, rfl, rfl, True.intro, ?_⟩ | refine ⟨Nat.le_of_ble_eq_true rfl, ?_⟩ | refine ⟨_, .inl rfl, rfl, rfl, ?_⟩ | refine ⟨_, .inl rfl, ?_⟩ | refine ⟨_, .inr rfl, ?_⟩ | refine ⟨_, rfl, ?_⟩ | refine ⟨rfl, rfl, ?_⟩ | refine ⟨_, _, rfl, rfl, ?_⟩ | refine ⟨_, _, rfl, ?_⟩ | refine ⟨_, _, _, rfl, ?_⟩ | refine ⟨rfl, ?_⟩)

section
variable {P : Program} {w : World} {K : PySem.W.Frag} {mg : Str → Option Value} {base : Heap}
def S_inner_terms (ds : List PyData) (R : PyData → Prop) : Prop := ∃ t : Tm, ds = [t.d] ∧ R (.list (t.kids.map Tm.d))
theorem c_inner_terms (T : Tp w K mg) : Callee P w K mg base 1 "inner_terms" ["term"] (spD K S_inner_terms) := T.d_inner_terms.callee fun f fd F =>
  okD F sc_inner_terms (fun ds R h => by obtain ⟨_, rfl, _⟩ := h; rfl) fun cdv A outer s H E hr => ⟨_, (pss_one (ps_ret (pe_ifExp (PW.pt (pw_or (pt_val (pe_callB call_isi (by rfl) T.z_isinstance (by decide +kernel) (pa_cons (pv 0) (pa_cons (pe_bltn (v := .ty "str") (by rfl) T.z_str (by decide +kernel) rfl) pa_nil)))) (pw_or1 (pt_cmpR op_eq (pe_ix ix_tup (pv 0) pe_int (fun _ _ => rfl)) pe_str (nomark _))))) (pe_lst pa_nil) (pe_callTy cb_list (by rfl) T.z_list (by decide +kernel) (pa_cons (pe_slice sl_tup (pv 0) (po_some pe_int) po_none) pa_nil))))), fun W ds R h => by
    obtain ⟨t, rfl, r⟩ := h
    try dsimp only [cxOf]
    refine (show DS K W _ [.d t.d] _ from ?_)
    cases t <;> (repeat walk_at "dd") <;> exact r⟩
theorem numOk_B {g a b : Int} (h : Tm.numOk g a b) : numB g a b = true := by
  obtain ⟨h, _, _⟩ := h
  unfold numB
  split
  · rename_i c
    rw [if_pos c] at h
    obtain ⟨h1, h2, h3⟩ := h
    simp [h1, h2, h3]
  · rename_i c
    rw [if_neg c] at h
    obtain ⟨h1, h2⟩ := h
    simp [h1, h2]
def S_is_shaped (ds : List PyData) (R : PyData → Prop) : Prop := ∃ (g : Int) (t : Tm), ds = [.int g, t.d] ∧ t.nums g ∧ R (.bool true)
theorem c_is_shaped (T : Tp w K mg) (C_is_pair : Callee P w K mg base 1 "is_pair" ["thing"] (spD K S_is_pair)) (C_is_num : Callee P w K mg base 3 "is_num" ["ground", "thing"] (spD K S_is_num)) :
    Callee P w K mg base 4 "is_shaped" ["ground", "term"] (spD K S_is_shaped) := T.d_is_shaped.callee fun f fd F => by
  obtain ⟨a_SIDES, g_SIDES, tab_SIDES⟩ := T.g_SIDES
  obtain ⟨a_JOINTS, g_JOINTS, tab_JOINTS⟩ := T.g_JOINTS
  exact okD F sc_is_shaped (fun ds R h => by obtain ⟨_, _, rfl, _⟩ := h; rfl) fun cdv A outer s H E hr => ⟨_, (pss_cons (ps_if (pt_val (pe_callB call_isi (by rfl) T.z_isinstance (by decide +kernel) (pa_cons (pv 1) (pa_cons (pe_bltn (v := .ty "str") (by rfl) T.z_str (by decide +kernel) rfl) pa_nil)))) (pss_one (ps_ret (pe_cmpR (op_inTab tab_SIDES) (pv 1) (pe_gk g_SIDES rfl) (by rfl)))) pss_nil) (pss_cons (ps_if (PW.pt (pw_or (pt_not (pt_val (pe_callB call_isi (by rfl) T.z_isinstance (by decide +kernel) (pa_cons (pv 1) (pa_cons (pe_bltn (v := .ty "tuple") (by rfl) T.z_tuple (by decide +kernel) rfl) pa_nil))))) (pw_or (pt_cmpR (op_eqD hr.units) (pe_callB cb_len (by rfl) T.z_len (by decide +kernel) (pa_cons (pv 1) pa_nil)) pe_int (nomark _)) (pw_or1 (pt_not (pt_val (pe_callB call_isi (by rfl) T.z_isinstance (by decide +kernel) (pa_cons (pe_ix ix_tup (pv 1) pe_int (fun _ _ => rfl)) (pa_cons (pe_bltn (v := .ty "str") (by rfl) T.z_str (by decide +kernel) rfl) pa_nil))))))))) (pss_one (ps_ret pe_bl)) pss_nil) (pss_cons (ps_if (pt_cmpR op_eq (pe_ix ix_tup (pv 1) pe_int (fun _ _ => rfl)) pe_str (nomark _)) (pss_one (ps_ret (pe_and (pe_cl C_is_pair (hr.mono (by omega)) (by rfl) (pa_cons (pv 1) pa_nil)) (pe_one (pe_cl C_is_num (hr.mono (by omega)) (by rfl) (pa_cons (pv 0) (pa_cons (pe_ix ix_tup (pv 1) pe_int (fun _ _ => rfl)) pa_nil))))))) pss_nil) (pss_one (ps_ret (pe_cmpR (op_eqD hr.units) (pe_tabGet tab_JOINTS (pe_gk g_JOINTS rfl) (pe_ix ix_tup (pv 1) pe_int (fun _ _ => rfl)) pe_int ⟨rfl, rfl, rfl, rfl⟩) (pe_callB cb_len (by rfl) T.z_len (by decide +kernel) (pa_cons (pv 1) pa_nil)) (nomark _))))))), fun W ds R h => by
    obtain ⟨g, t, rfl, hn, r⟩ := h
    try dsimp only [cxOf]
    refine (show DS K W _ [.d (.int g), .d t.d] _ from ?_)
    cases t with
    | word w =>
      cases w <;> (repeat walk_at "dd") <;> exact r
    | times a b =>
      repeat walk_at "dd"
      exact R_eq r (by rw [show isNum g (.tuple [.int a, .int b]) = numB g a b from rfl, numOk_B hn])
    | _ => (repeat walk_at "dd") <;> exact r⟩
/-! is_bounded -/
def item (p : Tm × Nat) : PyData := .tuple [p.1.d, .int (p.2 : Int)]
def sumP (l : List (Tm × Nat)) : Nat := (l.map fun p => p.1.parts).sum
theorem sumP_len (l : List (Tm × Nat)) : l.length ≤ sumP l := by
  induction l with
  | nil => exact Nat.le_refl _
  | cons p l ih =>
    have := p.1.parts_pos
    show l.length + 1 ≤ p.1.parts + sumP l
    omega
theorem sumP_app (l m : List (Tm × Nat)) : sumP (l ++ m) = sumP l + sumP m := by
  unfold sumP
  rw [List.map_append, List.sum_append]
theorem kids_parts (t : Tm) (k : Nat) : sumP (t.kids.map fun u => (u, k)) + 1 = t.parts := by
  cases t <;> simp [Tm.kids, sumP, Tm.parts]
theorem kids_deep {t u : Tm} (h : u ∈ t.kids) : u.deep + 1 ≤ t.deep := by
  cases t with
  | word _ => cases h
  | times _ _ => cases h
  | turned t => cases List.mem_singleton.mp h; exact Nat.le_refl _
  | loop t => cases List.mem_singleton.mp h; exact Nat.le_refl _
  | thn a b =>
    show u.deep + 1 ≤ max a.deep b.deep + 1
    simp [Tm.kids] at h
    rcases h with rfl | rfl <;> omega
  | bes a b =>
    show u.deep + 1 ≤ max a.deep b.deep + 1
    simp [Tm.kids] at h
    rcases h with rfl | rfl <;> omega
theorem kids_nums {g : Int} {t u : Tm} (hn : t.nums g) (h : u ∈ t.kids) : u.nums g := by
  cases t with
  | word _ => cases h
  | times _ _ => cases h
  | turned t => cases List.mem_singleton.mp h; exact hn
  | loop t => cases List.mem_singleton.mp h; exact hn
  | thn a b =>
    simp [Tm.kids] at h
    rcases h with rfl | rfl
    · exact hn.1
    · exact hn.2
  | bes a b =>
    simp [Tm.kids] at h
    rcases h with rfl | rfl
    · exact hn.1
    · exact hn.2
def S_is_bounded (ds : List PyData) (R : PyData → Prop) : Prop := ∃ (g : Int) (t : Tm), ds = [.int g, t.d] ∧ t.nums g ∧ t.parts ≤ 80 ∧ t.deep ≤ 30 ∧ R (.bool true)
theorem snoc_of {α : Type} {l : List α} (h : l ≠ []) : ∃ a b, l = a ++ [b] := ⟨l.dropLast, l.getLast h, (List.dropLast_concat_getLast h).symm⟩
theorem c_is_bounded (T : Tp w K mg) (C_inner_terms : Callee P w K mg base 1 "inner_terms" ["term"] (spD K S_inner_terms)) (C_is_shaped : Callee P w K mg base 4 "is_shaped" ["ground", "term"] (spD K S_is_shaped)) :
    Callee P w K mg base 5 "is_bounded" ["ground", "thing"] (spD K S_is_bounded) := T.d_is_bounded.callee fun f fd F =>
  okD F sc_is_bounded (fun ds R h => by obtain ⟨_, _, rfl, _⟩ := h; rfl) fun cdv A outer s H E hr => ⟨_, (pss_cons (ps_set (i := 2) sc_is_bounded.nd rfl (.inl rfl) (pe_lst (pa_cons (pe_tup (pa_cons (pv 1) (pa_cons pe_int pa_nil))) pa_nil))) (pss_cons (ps_set (i := 3) sc_is_bounded.nd rfl (.inl rfl) pe_int) (pss_cons (ps_while PassesOwn.never (pt_cmpR op_gt (pe_callB cb_len (by rfl) T.z_len (by decide +kernel) (pa_cons (pv 2) pa_nil)) pe_int (nomark _)) (pss_cons (ps_asg (pe_bm0 PySem.F.plainAttrs_list PySem.F.slot_list_pop PySem.F.type_list_pop mt_pop (pv 2)) (pg_tup rfl (pgs_cons (pg_name (i := 4) sc_is_bounded.nd rfl (.inl rfl)) (pgs_cons (pg_name (i := 5) sc_is_bounded.nd rfl (.inr rfl)) pgs_nil)))) (pss_cons (ps_aug (i := 3) sc_is_bounded.nd rfl (.inl rfl) pe_int ip_add) (pss_cons (ps_if (PW.pt (pw_or (pt_cmpR op_gt (pv 3) (pe_gk T.g_MOST_PARTS rfl) (nomark _)) (pw_or (pt_cmpR op_gt (pv 5) (pe_gk T.g_MOST_DEEP rfl) (nomark _)) (pw_or1 (pt_not (pt_val (pe_cl C_is_shaped (hr.mono (by omega)) (by rfl) (pa_cons (pv 0) (pa_cons (pv 4) pa_nil))))))))) (pss_one (ps_ret pe_bl)) pss_nil) (pss_one (ps_expr (pe_bm PySem.F.plainAttrs_list PySem.F.slot_list_extend PySem.F.type_list_extend mt_extend (pv 2) (pa_cons (pe_lc (own := [("inner", 6)]) (g := (gName 6)) (tt := tYes) rfl sc_is_bounded.nd (pi_list (pe_cl C_inner_terms (hr.mono (by omega)) (by rfl) (pa_cons (pv 4) pa_nil))) (blkOk_by (N := N_is_bounded) (sc := defScope s_is_bounded) (by decide +kernel)) (fun _ _ _ _ _ => (pg_name (i := 6) sc_is_bounded.nd rfl (.inl rfl))) (fun _ _ _ _ _ => pts_nil) (fun _ _ _ _ _ => (pe_tup (pa_cons (pv 6) (pa_cons (pe_op op_add (pv 5) pe_int) pa_nil))))) pa_nil)))))))) (pss_one (ps_ret pe_bl))))), fun W ds R h => by
    obtain ⟨g, t, rfl, hn, hp, hd, r⟩ := h
    try dsimp only [cxOf]
    refine (show DS K W _ [.d (.int g), .d t.d, .no, .no, .no, .no, .no] _ from ?_)
    refine ds_pool (en_lst ?_)
    repeat walk_at "dd"
    intro D hD
    have pw := poolW (K := K) hD
    refine (show DSf K (fun ds => W.pool K D ds) _ _ [.d (.int g), .d t.d, .v (.ref D), .no, .no, .no, .no] _ from ?_)
    refine dsf_seq (dsf_lift ?_)
    repeat walk_at "dd"
    refine dsf_while (fun m ds Γ => ∃ (l : List (Tm × Nat)) (many : Nat) (x y z : Slot), ds = l.map item ∧ Γ = [.d (.int g), .d t.d, .v (.ref D), .d (.int many), x, y, z] ∧ m = sumP l ∧ sumP l + many = t.parts ∧ ∀ p ∈ l, p.1.nums g ∧ p.2 + p.1.deep ≤ 31)
      (sumP [(t, 1)]) ⟨[(t, 1)], 0, .no, .no, .no, rfl, rfl, rfl, by simp [sumP], fun p hp => by cases List.mem_singleton.mp hp; exact ⟨hn, by show 1 + t.deep ≤ 31; omega⟩⟩ fun m ds Γ' h => ?_
    obtain ⟨l, many, x, y, z, rfl, rfl, rfl, hs, hl⟩ := h
    refine dt_test (de_B0 (de_lenP (p := pw) rfl ?_))
    repeat walk_at "dd"
    refine ite2 (fun c => ?_) (fun c => ?_)
    · have hne : l ≠ [] := fun z => by subst z; exact absurd c (by decide)
      obtain ⟨l', ⟨u, k⟩, rfl⟩ := snoc_of hne
      obtain ⟨hu, hk⟩ := hl (u, k) (by simp)
      have hk' : k + u.deep ≤ 31 := hk
      have e1 : sumP (l' ++ [(u, k)]) = sumP l' + u.parts := by rw [sumP_app]; simp [sumP]
      have hpp := u.parts_pos
      have hdp := u.deep_pos
      rw [List.map_append]
      refine dsf_seq (dsf_popT [4, 5] (es := [u.d, .int (k : Int)]) pw rfl rfl rfl ?_)
      refine (show DSf K (fun ds => W.pool K D ds) _ _ [.d (.int g), .d t.d, .v (.ref D), .d (.int many), .d u.d, .d (.int (k : Int)), z] _ from ?_)
      refine dsf_seq (dsf_lift (ds_aug rfl ?_))
      have b1 : decide ((80 : Int) < (many : Int) + 1) = false := decide_eq_false (by omega)
      have b2 : decide ((30 : Int) < (k : Int)) = false := decide_eq_false (by omega)
      repeat walk_at "dd"
      rw [b1]
      repeat walk_at "dd"
      rw [b2]
      repeat walk_at "dd"
      refine ⟨hu, ?_⟩
      repeat walk_at "dd"
      refine dsf_extend pw rfl (en_lcL sh_any ?_)
      repeat walk_at "dd"
      have lk : u.kids.length ≤ 2 := by cases u <;> simp [Tm.kids]
      have ll := sumP_len l'
      refine ⟨by rw [List.length_map]; omega, fun i y => ∃ c, u.kids[i]? = some c ∧ y = item (c, k + 1), fun _ => False, fun i x hx => ?_, fun ys hy => ?_⟩
      · rw [List.getElem?_map] at hx
        obtain ⟨c, hc, rfl⟩ := Option.map_eq_some_iff.mp hx
        refine ⟨_, cg_name (by decide), fun W' _ => ?_⟩
        repeat walk_at "dd"
        exact ⟨c, hc, rfl⟩
      · rw [List.length_map] at hy
        have ey := hy.mapL (f := fun c => item (c, k + 1)) fun i y h => h
        subst ey
        have hkp := kids_parts u (k + 1)
        have e3 : List.map (fun c => item (c, k + 1)) u.kids = List.map item (u.kids.map fun c => (c, k + 1)) := by rw [List.map_map]; rfl
        refine ⟨by rw [List.length_map, List.length_map]; omega, sumP (l' ++ u.kids.map fun c => (c, k + 1)), ?_, l' ++ u.kids.map (fun c => (c, k + 1)), many + 1, _, _, _, ?_, rfl, rfl, ?_, fun p hp => ?_⟩
        · rw [e1, sumP_app]; omega
        · rw [List.map_append, e3]
        · rw [sumP_app]; omega
        · rcases List.mem_append.mp hp with h | h
          · exact hl p (List.mem_append_left _ h)
          · obtain ⟨c, hc, rfl⟩ := List.mem_map.mp h
            have := kids_deep hc
            exact ⟨kids_nums hu hc, by show k + 1 + c.deep ≤ 31; omega⟩
    · refine dsf_lift (ds_ret ?_)
      repeat walk_at "dd"
      exact r⟩
end
end K86
set_option Elab.async false
set_option linter.all false
set_option maxRecDepth 100000
set_option maxHeartbeats 1000000
namespace K86
open PySem PyProof.Rows L2 DL KT
local macro_rules | `(tactic| walk_at "dd") => `(tactic| first
  | with_reducible refine dsf_nil ?_ | with_reducible refine dsf_seq ?_ | with_reducible refine dsf_if ?_ | with_reducible refine dsf_lift (ds_set ?_) | with_reducible refine dsf_lift (ds_ret ?_) | with_reducible refine dsf_lift (ds_par ?_)
  | with_reducible refine ds_nil ?_ | with_reducible refine ds_seq ?_ | with_reducible refine ds_ret ?_ | with_reducible refine ds_retN ?_ | with_reducible refine ds_set ?_ | with_reducible refine ds_if ?_ | with_reducible refine ds_drop ?_ | with_reducible refine ds_par ?_
  | ((with_reducible refine' de_var ?h ?_); (case h => rfl)) | ((with_reducible refine' de_c ?h ?_); (case h => rfl))
  | with_reducible refine de_I0 ?_ | with_reducible refine de_B0 ?_ | with_reducible refine de_I ?_ | with_reducible refine de_addStr ?_ | with_reducible refine de_eqS ?_ | with_reducible refine de_neS ?_ | with_reducible refine de_eqD ?_ | with_reducible refine de_neD ?_ | with_reducible refine de_isNo ?_ | with_reducible refine de_isNot ?_
  | with_reducible refine de_ixT ?_ | with_reducible refine de_ixL ?_ | with_reducible refine de_neg ?_ | with_reducible refine de_catT ?_ | with_reducible refine de_tail ?_ | with_reducible refine de_in ?_ | with_reducible refine de_inTab ?_ | with_reducible refine de_ixTab ?_ | with_reducible refine de_tabGet ?_ | with_reducible refine de_inD ?_
  | with_reducible refine de_abs ?_ | with_reducible refine de_int ?_ | with_reducible refine de_intBB ?_ | with_reducible refine de_str ?_ | with_reducible refine de_max ?_ | with_reducible refine de_min ?_ | with_reducible refine de_len ?_ | with_reducible refine de_lenS ?_ | with_reducible refine de_list ?_ | with_reducible refine de_tuple ?_
  | with_reducible refine de_isTup ?_ | with_reducible refine de_isLst ?_ | with_reducible refine de_isStr ?_ | with_reducible refine de_isBool ?_ | with_reducible refine de_isInt ?_
  | with_reducible refine de_tup ?_ | with_reducible refine de_lst ?_ | with_reducible refine de_call ?_ | ((with_reducible refine' de_callU ?h ?_); (case h => assumption))
  | with_reducible refine da_nil ?_ | ((with_reducible refine' da_consV ?h ?_); (case h => rfl)) | with_reducible refine da_cons ?_
  | with_reducible refine dt_test ?_ | with_reducible refine dt_B ?_ | with_reducible refine dt_not ?_ | with_reducible refine dt_and ?_ | with_reducible refine dt_or ?_
  | with_reducible refine de_andV ?_ | with_reducible refine de_orV ?_ | with_reducible refine de_notV ?_ | with_reducible refine de_if ?_
  | with_reducible refine de_chain od_B0 od_B0 ?_ | with_reducible refine dt_yes ?_
  | ((with_reducible refine' iteB ?h ?_); (case h => rfl)) | ((with_reducible refine' iteN ?h ?_); (case h => rfl))
  | refine ⟨_, _, _, rfl, rfl, rfl, ?_⟩ | refine ⟨_, _, rfl, rfl, True.intro, ?_⟩ | refine ⟨Nat.le_of_ble_eq_true rfl, ?_⟩ | refine ⟨_, .inl rfl, rfl, rfl, ?_⟩ | refine ⟨_, .inl rfl, ?_⟩ | refine ⟨_, .inr rfl, ?_⟩ | refine ⟨_, rfl, ?_⟩ | refine ⟨rfl, rfl, ?_⟩ | refine ⟨_, _, rfl, rfl, ?_⟩ | refine ⟨_, _, rfl, ?_⟩ | refine ⟨_, _, _, rfl, ?_⟩ | refine ⟨rfl, ?_⟩)

section
variable {P : Program} {w : World} {K : PySem.W.Frag} {mg : Str → Option Value} {base : Heap}
def sdD (s : Int × Int) : PyData := .tuple [.int s.1, .int s.2]
def S_joint (ds : List PyData) (R : PyData → Prop) : Prop := ∃ (w : Str) (ss : List (Int × Int)) (r : Int × Int), ds = [.str w, .list (ss.map sdD)] ∧
  ((∃ a, w = "turned" ∧ ss = [a] ∧ r = (a.2, a.1)) ∨ (∃ a, w = "loop" ∧ ss = [a] ∧ 0 < a.1 ∧ 0 < a.2 ∧ r = (a.1 - 1, a.2 - 1)) ∨ (∃ a b, w = "then" ∧ ss = [a, b] ∧ a.2 = b.1 ∧ r = (a.1, b.2)) ∨ ∃ a b, w = "beside" ∧ ss = [a, b] ∧ r = (a.1 + b.1, a.2 + b.2)) ∧ R (sdD r)
theorem c_joint_sides (T : Tp w K mg) : Callee P w K mg base 1 "joint_sides" ["word", "some"] (spD K S_joint) := T.d_joint_sides.callee fun f fd F =>
  okD F sc_joint_sides (fun ds R h => by obtain ⟨_, _, _, rfl, _⟩ := h; rfl) fun cdv A outer s H E hr => ⟨_, (pss_cons (ps_asg (pe_ix ix_list (pv 1) pe_int (fun _ _ => rfl)) (pg_tup rfl (pgs_cons (pg_name (i := 2) sc_joint_sides.nd rfl (.inl rfl)) (pgs_cons (pg_name (i := 3) sc_joint_sides.nd rfl (.inl rfl)) pgs_nil)))) (pss_cons (ps_if (pt_cmpR op_eq (pv 0) pe_str (nomark _)) (pss_one (ps_ret (pe_tup (pa_cons (pv 3) (pa_cons (pv 2) pa_nil))))) pss_nil) (pss_cons (ps_if (pt_cmpR op_eq (pv 0) pe_str (nomark _)) (pss_one (ps_ret (pe_ifExp (pt_cmpR op_gt (pe_callB (cb_min rfl) (by rfl) T.z_min (by decide +kernel) (pa_cons (pv 2) (pa_cons (pv 3) pa_nil))) pe_int (nomark _)) (pe_tup (pa_cons (pe_op op_sub (pv 2) pe_int) (pa_cons (pe_op op_sub (pv 3) pe_int) pa_nil))) pe_non))) pss_nil) (pss_cons (ps_if (pt_cmpR op_eq (pv 0) pe_str (nomark _)) (pss_one (ps_ret (pe_ifExp (pt_cmpR (op_eqD hr.units) (pv 3) (pe_ix ix_tup (pe_ix ix_list (pv 1) pe_int (fun _ _ => rfl)) pe_int (fun _ _ => rfl)) (nomark _)) (pe_tup (pa_cons (pv 2) (pa_cons (pe_ix ix_tup (pe_ix ix_list (pv 1) pe_int (fun _ _ => rfl)) pe_int (fun _ _ => rfl)) pa_nil))) pe_non))) pss_nil) (pss_one (ps_ret (pe_tup (pa_cons (pe_op op_add (pv 2) (pe_ix ix_tup (pe_ix ix_list (pv 1) pe_int (fun _ _ => rfl)) pe_int (fun _ _ => rfl))) (pa_cons (pe_op op_add (pv 3) (pe_ix ix_tup (pe_ix ix_list (pv 1) pe_int (fun _ _ => rfl)) pe_int (fun _ _ => rfl))) pa_nil))))))))), fun W ds R h => by
    obtain ⟨w, ss, q, rfl, h, r⟩ := h
    try dsimp only [cxOf]
    refine (show DS K W _ [.d (.str w), .d (.list (ss.map sdD)), .no, .no] _ from ?_)
    rcases h with ⟨a, rfl, rfl, rfl⟩ | ⟨a, rfl, rfl, h1, h2, rfl⟩ | ⟨a, b, rfl, rfl, h1, rfl⟩ | ⟨a, b, rfl, rfl, rfl⟩
    · refine ds_seq (ds_tgt (d := sdD a) ?_)
      repeat walk_at "dd"
      refine dg_tup [2, 3] rfl rfl rfl ?_
      refine (show DS K W _ [.d (.str "turned"), .d (.list [sdD a]), .d (.int a.1), .d (.int a.2)] _ from ?_)
      repeat walk_at "dd"
      exact r
    · refine ds_seq (ds_tgt (d := sdD a) ?_)
      repeat walk_at "dd"
      refine dg_tup [2, 3] rfl rfl rfl ?_
      refine (show DS K W _ [.d (.str "loop"), .d (.list [sdD a]), .d (.int a.1), .d (.int a.2)] _ from ?_)
      repeat walk_at "dd"
      have e : decide ((0 : Int) < if a.2 < a.1 then a.2 else a.1) = true := decide_eq_true (by split <;> omega)
      rw [show decide ((0 : Int) < if a.1 > a.2 then a.2 else a.1) = true from e]
      repeat walk_at "dd"
      exact r
    · refine ds_seq (ds_tgt (d := sdD a) ?_)
      repeat walk_at "dd"
      refine dg_tup [2, 3] rfl rfl rfl ?_
      refine (show DS K W _ [.d (.str "then"), .d (.list [sdD a, sdD b]), .d (.int a.1), .d (.int a.2)] _ from ?_)
      repeat walk_at "dd"
      refine iteB (show (a.2 == b.1) = true by rw [h1]; exact beq_self_eq_true _) ?_
      repeat walk_at "dd"
      exact r
    · refine ds_seq (ds_tgt (d := sdD a) ?_)
      repeat walk_at "dd"
      refine dg_tup [2, 3] rfl rfl rfl ?_
      refine (show DS K W _ [.d (.str "beside"), .d (.list [sdD a, sdD b]), .d (.int a.1), .d (.int a.2)] _ from ?_)
      repeat walk_at "dd"
      exact r⟩
/-! sides_of, by its depth -/
def S_sides (n : Nat) (ds : List PyData) (R : PyData → Prop) : Prop := ∃ (t : Tm) (s : Int × Int), ds = [t.d] ∧ t.deep ≤ n ∧ t.sides = some s ∧ R (sdD s)
theorem sd_wd (wd : Wd) : tab_SIDES wd.s = some (sdD wd.sd) := by cases wd <;> rfl
theorem none_callee {x : Str} {st : Stmt} {ps : List Str} {S : List PyData → (PyData → Prop) → Prop} {k : Nat} (D : Df K mg x st ps) (h : ∀ ds R, ¬ S ds R) : Callee P w K mg base k x ps (spD K S) := by
  obtain ⟨f, fd, F, b, m⟩ := D.ex
  have no : ∀ vs H Q E, ¬ spD K S vs H Q E := fun vs H Q E z => by
    obtain ⟨_, _, ds, R, _, _, s, _⟩ := z
    exact h ds R s
  exact ⟨f, fd, ⟨fun vs H Q E z => absurd z (no vs H Q E), fun A outer s H args us vs Q E _ _ _ _ z => absurd z (no vs H Q E)⟩, b, F.kp, m⟩
theorem c_sides_step {n : Nat} (T : Tp w K mg) (C_inner_terms : Callee P w K mg base (n + 1) "inner_terms" ["term"] (spD K S_inner_terms)) (C_joint_sides : Callee P w K mg base (n + 1) "joint_sides" ["word", "some"] (spD K S_joint))
    (C_sides_of : Callee P w K mg base (n + 1) "sides_of" ["term"] (spD K (S_sides n))) : Callee P w K mg base (n + 2) "sides_of" ["term"] (spD K (S_sides (n + 1))) := T.d_sides_of.callee fun f fd F => by
  obtain ⟨a_SIDES, g_SIDES, tab_SIDES⟩ := T.g_SIDES
  exact okD F sc_sides_of (fun ds R h => by obtain ⟨_, _, rfl, _⟩ := h; rfl) fun cdv A outer s H E hr => ⟨_, (pss_cons (ps_if (pt_val (pe_callB call_isi (by rfl) T.z_isinstance (by decide +kernel) (pa_cons (pv 0) (pa_cons (pe_bltn (v := .ty "str") (by rfl) T.z_str (by decide +kernel) rfl) pa_nil)))) (pss_one (ps_ret (pe_ix (ix_tab tab_SIDES) (pe_gk g_SIDES rfl) (pv 0) (fun _ _ => rfl)))) pss_nil) (pss_cons (ps_if (pt_cmpR op_eq (pe_ix ix_tup (pv 0) pe_int (fun _ _ => rfl)) pe_str (nomark _)) (pss_one (ps_ret (pe_tup (pa_cons pe_int (pa_cons pe_int pa_nil))))) pss_nil) (pss_cons (ps_setLc (i := 1) (own := [("inner", 2)]) (g := (gName 2)) (tt := tYes) rfl sc_sides_of.nd rfl rfl (sw_true rfl rfl rfl (by decide +kernel)) (pi_list (pe_cl C_inner_terms (hr.mono (by omega)) (by rfl) (pa_cons (pv 0) pa_nil))) (blkOk_by (N := N_sides_of) (sc := defScope s_sides_of) (by decide +kernel)) (fun _ _ _ _ _ => (pg_name (i := 2) sc_sides_of.nd rfl (.inl rfl))) (fun _ _ _ _ _ => pts_nil) (fun _ _ _ _ _ => (pe_cl C_sides_of (hr.mono (by omega)) (by rfl) (pa_cons (pv 2) pa_nil)))) (pss_one (ps_ret (pe_ifExp (pt_cmpR (op_inD (units65 hr)) pe_non (pv 1) (by rfl)) pe_non (pe_cl C_joint_sides (hr.mono (by omega)) (by rfl) (pa_cons (pe_ix ix_tup (pv 0) pe_int (fun _ _ => rfl)) (pa_cons (pv 1) pa_nil))))))))), fun W ds R h => by
    obtain ⟨t, sd, rfl, hd, hs, r⟩ := h
    try dsimp only [cxOf]
    refine (show DS K W _ [.d t.d, .no, .no] _ from ?_)
    have one : ∀ (u : Tm) (su : Int × Int) (wd : Str) (Rt : PyData → Prop), True := fun _ _ _ _ => trivial
    cases t with
    | word wd =>
      have e : sd = wd.sd := Option.some.inj (hs.symm.trans rfl)
      subst e
      repeat walk_at "dd"
      refine ⟨wd.s, sdD wd.sd, rfl, sd_wd wd, ?_⟩
      exact r
    | times a b =>
      have e : sd = (1, 1) := Option.some.inj (hs.symm.trans rfl)
      subst e
      repeat walk_at "dd"
      exact r
    | turned t =>
      obtain ⟨st, hst, rfl⟩ := Option.map_eq_some_iff.mp (show t.sides.map _ = some sd from hs)
      have hdt : t.deep ≤ n := Nat.le_of_succ_le_succ hd
      repeat walk_at "dd"
      refine de_lcL sh_any ?_
      repeat walk_at "dd"
      refine ⟨fun i y => y = sdD st, fun _ => False, fun i x hx => ?_, fun ys hy => ?_⟩
      · have ex : x = t.d := by
          rcases i with _ | i
          · exact (Option.some.inj hx).symm
          · simp [Tm.kids] at hx
        subst ex
        refine ⟨_, cg_name (by decide), fun W' _ => ?_⟩
        repeat walk_at "dd"
        exact ⟨t, st, rfl, hdt, hst, rfl⟩
      · obtain ⟨y, rfl, rfl⟩ := hy.one
        repeat walk_at "dd"
        exact ⟨_, [st], _, rfl, .inl ⟨st, rfl, rfl, rfl⟩, r⟩
    | loop t =>
      obtain ⟨st, hst, h2⟩ := Option.bind_eq_some_iff.mp (show t.sides.bind _ = some sd from hs)
      have h3 : 0 < st.1 ∧ 0 < st.2 ∧ sd = (st.1 - 1, st.2 - 1) := by
        by_cases c : 0 < st.1 ∧ 0 < st.2
        · rw [if_pos c] at h2
          exact ⟨c.1, c.2, (Option.some.inj h2).symm⟩
        · rw [if_neg c] at h2
          cases h2
      obtain ⟨h4, h5, rfl⟩ := h3
      have hdt : t.deep ≤ n := Nat.le_of_succ_le_succ hd
      repeat walk_at "dd"
      refine de_lcL sh_any ?_
      repeat walk_at "dd"
      refine ⟨fun i y => y = sdD st, fun _ => False, fun i x hx => ?_, fun ys hy => ?_⟩
      · have ex : x = t.d := by
          rcases i with _ | i
          · exact (Option.some.inj hx).symm
          · simp [Tm.kids] at hx
        subst ex
        refine ⟨_, cg_name (by decide), fun W' _ => ?_⟩
        repeat walk_at "dd"
        exact ⟨t, st, rfl, hdt, hst, rfl⟩
      · obtain ⟨y, rfl, rfl⟩ := hy.one
        repeat walk_at "dd"
        exact ⟨_, [st], _, rfl, .inr (.inl ⟨st, rfl, rfl, h4, h5, rfl⟩), r⟩
    | thn t u =>
      obtain ⟨st, hst, h2⟩ := Option.bind_eq_some_iff.mp (show t.sides.bind _ = some sd from hs)
      obtain ⟨su, hsu, h3⟩ := Option.bind_eq_some_iff.mp h2
      have h4 : st.2 = su.1 ∧ sd = (st.1, su.2) := by
        by_cases c : st.2 = su.1
        · rw [if_pos c] at h3
          exact ⟨c, (Option.some.inj h3).symm⟩
        · rw [if_neg c] at h3
          cases h3
      obtain ⟨h5, rfl⟩ := h4
      have hd' : max t.deep u.deep ≤ n := Nat.le_of_succ_le_succ hd
      have hdt : t.deep ≤ n := Nat.le_trans (Nat.le_max_left _ _) hd'
      have hdu : u.deep ≤ n := Nat.le_trans (Nat.le_max_right _ _) hd'
      repeat walk_at "dd"
      refine de_lcL sh_any ?_
      repeat walk_at "dd"
      refine ⟨fun i y => (i = 0 → y = sdD st) ∧ (i = 1 → y = sdD su), fun _ => False, fun i x hx => ?_, fun ys hy => ?_⟩
      · rcases i with _ | _ | i
        · have ex : x = t.d := (Option.some.inj hx).symm
          subst ex
          refine ⟨_, cg_name (by decide), fun W' _ => ?_⟩
          repeat walk_at "dd"
          exact ⟨t, st, rfl, hdt, hst, fun _ => rfl, fun z => nomatch z⟩
        · have ex : x = u.d := (Option.some.inj hx).symm
          subst ex
          refine ⟨_, cg_name (by decide), fun W' _ => ?_⟩
          repeat walk_at "dd"
          exact ⟨u, su, rfl, hdu, hsu, (fun z => absurd z (by decide)), fun _ => rfl⟩
        · simp [Tm.kids] at hx
      · obtain ⟨y, z, rfl, ⟨h0, _⟩, ⟨_, h1⟩⟩ := hy.two
        cases h0 rfl
        cases h1 rfl
        repeat walk_at "dd"
        exact ⟨_, [st, su], _, rfl, .inr (.inr (.inl ⟨st, su, rfl, rfl, h5, rfl⟩)), r⟩
    | bes t u =>
      obtain ⟨st, hst, h2⟩ := Option.bind_eq_some_iff.mp (show t.sides.bind _ = some sd from hs)
      obtain ⟨su, hsu, h3⟩ := Option.bind_eq_some_iff.mp h2
      have h4 := (Option.some.inj h3).symm
      subst h4
      have hd' : max t.deep u.deep ≤ n := Nat.le_of_succ_le_succ hd
      have hdt : t.deep ≤ n := Nat.le_trans (Nat.le_max_left _ _) hd'
      have hdu : u.deep ≤ n := Nat.le_trans (Nat.le_max_right _ _) hd'
      repeat walk_at "dd"
      refine de_lcL sh_any ?_
      repeat walk_at "dd"
      refine ⟨fun i y => (i = 0 → y = sdD st) ∧ (i = 1 → y = sdD su), fun _ => False, fun i x hx => ?_, fun ys hy => ?_⟩
      · rcases i with _ | _ | i
        · have ex : x = t.d := (Option.some.inj hx).symm
          subst ex
          refine ⟨_, cg_name (by decide), fun W' _ => ?_⟩
          repeat walk_at "dd"
          exact ⟨t, st, rfl, hdt, hst, fun _ => rfl, fun z => nomatch z⟩
        · have ex : x = u.d := (Option.some.inj hx).symm
          subst ex
          refine ⟨_, cg_name (by decide), fun W' _ => ?_⟩
          repeat walk_at "dd"
          exact ⟨u, su, rfl, hdu, hsu, (fun z => absurd z (by decide)), fun _ => rfl⟩
        · simp [Tm.kids] at hx
      · obtain ⟨y, z, rfl, ⟨h0, _⟩, ⟨_, h1⟩⟩ := hy.two
        cases h0 rfl
        cases h1 rfl
        repeat walk_at "dd"
        exact ⟨_, [st, su], _, rfl, .inr (.inr (.inr ⟨st, su, rfl, rfl, rfl⟩)), r⟩⟩
theorem sides_zero (ds : List PyData) (R : PyData → Prop) : ¬ S_sides 0 ds R := fun ⟨t, _, _, h, _⟩ => by
  have := t.deep_pos
  omega
theorem c_sides_of (T : Tp w K mg) (C_inner_terms : Callee P w K mg base 1 "inner_terms" ["term"] (spD K S_inner_terms)) (C_joint_sides : Callee P w K mg base 1 "joint_sides" ["word", "some"] (spD K S_joint)) : ∀ n : Nat, Callee P w K mg base (n + 1) "sides_of" ["term"] (spD K (S_sides n))
  | 0 => none_callee T.d_sides_of sides_zero
  | n + 1 => c_sides_step T (C_inner_terms.mono (by omega)) (C_joint_sides.mono (by omega)) (c_sides_of T C_inner_terms C_joint_sides n)
def Right (g : Int) (t : Tm) : Prop := t.nums g ∧ t.parts ≤ 80 ∧ t.deep ≤ 30 ∧ ∃ s, t.sides = some s
def S_is_term_of (ds : List PyData) (R : PyData → Prop) : Prop := ∃ (g : Int) (t : Tm), ds = [.int g, t.d] ∧ Right g t ∧ R (.bool true)
theorem c_is_term_of (T : Tp w K mg) (C_is_bounded : Callee P w K mg base 5 "is_bounded" ["ground", "thing"] (spD K S_is_bounded)) (C_sides_of : Callee P w K mg base 31 "sides_of" ["term"] (spD K (S_sides 30))) :
    Callee P w K mg base 32 "is_term_of" ["ground", "thing"] (spD K S_is_term_of) := T.d_is_term_of.callee fun f fd F =>
  okD F sc_is_term_of (fun ds R h => by obtain ⟨_, _, rfl, _⟩ := h; rfl) fun cdv A outer s H E hr => ⟨_, (pss_one (ps_ret (pe_and (pe_cl C_is_bounded (hr.mono (by omega)) (by rfl) (pa_cons (pv 0) (pa_cons (pv 1) pa_nil))) (pe_one (pe_cmpR op_isNot (pe_cl C_sides_of (hr.mono (by omega)) (by rfl) (pa_cons (pv 1) pa_nil)) pe_non (nomark _)))))), fun W ds R h => by
    obtain ⟨g, t, rfl, ⟨h1, h2, h3, sd, h4⟩, r⟩ := h
    try dsimp only [cxOf]
    refine (show DS K W _ [.d (.int g), .d t.d] _ from ?_)
    repeat walk_at "dd"
    refine ⟨h1, h2, h3, ?_⟩
    repeat walk_at "dd"
    refine ⟨t, sd, rfl, h3, h4, ?_⟩
    repeat walk_at "dd"
    exact r⟩
def S_is_term (ds : List PyData) (R : PyData → Prop) : Prop := ∃ (g : Int) (t : Tm), ds = [.int g, t.d] ∧ isGr (.int g) = true ∧ Right g t ∧ R (.bool true)
theorem c_is_term (T : Tp w K mg) (C_check_ground : Callee P w K mg base 3 "check_ground" ["thing"] (spD K S_check_ground)) (C_is_term_of : Callee P w K mg base 32 "is_term_of" ["ground", "thing"] (spD K S_is_term_of)) :
    Callee P w K mg base 33 "is_term" ["ground", "thing"] (spD K S_is_term) := T.d_is_term.callee fun f fd F =>
  okD F sc_is_term (fun ds R h => by obtain ⟨_, _, rfl, _⟩ := h; rfl) fun cdv A outer s H E hr => ⟨_, (pss_cons (ps_expr (pe_cl C_check_ground (hr.mono (by omega)) (by rfl) (pa_cons (pv 0) pa_nil))) (pss_one (ps_ret (pe_cl C_is_term_of (hr.mono (by omega)) (by rfl) (pa_cons (pv 0) (pa_cons (pv 1) pa_nil)))))), fun W ds R h => by
    obtain ⟨g, t, rfl, hg, ht, r⟩ := h
    try dsimp only [cxOf]
    refine (show DS K W _ [.d (.int g), .d t.d] _ from ?_)
    repeat walk_at "dd"
    refine ⟨hg, ?_⟩
    repeat walk_at "dd"
    exact ⟨ht, r⟩⟩
/-! texts -/
def S_bound (ds : List PyData) (R : PyData → Prop) : Prop := ∃ t : Tm, ds = [t.d] ∧ R (.int (t.bound : Nat))
theorem c_bound_of (T : Tp w K mg) : Callee P w K mg base 1 "bound_of" ["term"] (spD K S_bound) := T.d_bound_of.callee fun f fd F =>
  okD F sc_bound_of (fun ds R h => by obtain ⟨_, rfl, _⟩ := h; rfl) fun cdv A outer s H E hr => ⟨_, (pss_cons (ps_if (PW.pt (pw_or (pt_val (pe_callB call_isi (by rfl) T.z_isinstance (by decide +kernel) (pa_cons (pv 0) (pa_cons (pe_bltn (v := .ty "str") (by rfl) T.z_str (by decide +kernel) rfl) pa_nil)))) (pw_or1 (pt_cmpR op_notIn_seq (pe_ix ix_tup (pv 0) pe_int (fun _ _ => rfl)) (pe_tup (pa_cons (pe_gk T.g_THEN rfl) (pa_cons (pe_gk T.g_BESIDE rfl) pa_nil))) (by rfl))))) (pss_one (ps_ret (pe_gk T.g_TIGHT rfl))) pss_nil) (pss_one (ps_ret (pe_ifExp (pt_cmpR op_eq (pe_ix ix_tup (pv 0) pe_int (fun _ _ => rfl)) (pe_gk T.g_THEN rfl) (nomark _)) (pe_gk T.g_LOOSE rfl) (pe_gk T.g_MIDDLE rfl))))), fun W ds R h => by
    obtain ⟨t, rfl, r⟩ := h
    try dsimp only [cxOf]
    refine (show DS K W _ [.d t.d] _ from ?_)
    cases t <;> (repeat walk_at "dd") <;> exact r⟩
def S_text (n : Nat) (ds : List PyData) (R : PyData → Prop) : Prop := ∃ (t : Tm) (g : Int), ds = [t.d] ∧ t.nums g ∧ t.parts ≤ 80 ∧ t.deep ≤ n ∧ R (.str t.text)
def S_within (n : Nat) (ds : List PyData) (R : PyData → Prop) : Prop := ∃ (t : Tm) (g : Int) (l : Nat), ds = [t.d, .int (l : Nat)] ∧ t.nums g ∧ t.parts ≤ 80 ∧ t.deep ≤ n ∧ R (.str (Tm.within t.text t.bound l))
theorem c_within (T : Tp w K mg) {n k : Nat} (hk : 1 ≤ k) (C_bound_of : Callee P w K mg base 1 "bound_of" ["term"] (spD K S_bound)) (C_text_of : Callee P w K mg base k "text_of" ["term"] (spD K (S_text n))) :
    Callee P w K mg base (k + 1) "text_within" ["term", "least"] (spD K (S_within n)) := T.d_text_within.callee fun f fd F =>
  okD F sc_text_within (fun ds R h => by obtain ⟨_, _, _, rfl, _⟩ := h; rfl) fun cdv A outer s H E hr => ⟨_, (pss_cons (ps_set (i := 2) sc_text_within.nd rfl (.inl rfl) (pe_cl C_text_of (hr.mono (by omega)) (by rfl) (pa_cons (pv 0) pa_nil))) (pss_one (ps_ret (pe_ifExp (pt_cmpR op_ge (pe_cl C_bound_of (hr.mono (by omega)) (by rfl) (pa_cons (pv 0) pa_nil)) (pv 1) (nomark _)) (pv 2) (pe_op op_addStr (pe_op op_addStr pe_str (pv 2)) pe_str))))), fun W ds R h => by
    obtain ⟨t, g, l, rfl, hn, hp, hd, r⟩ := h
    try dsimp only [cxOf]
    refine (show DS K W _ [.d t.d, .d (.int (l : Nat)), .no] _ from ?_)
    have tl := Tm.text_len t hn
    repeat walk_at "dd"
    refine ⟨t, g, rfl, hn, hp, hd, ?_⟩
    repeat walk_at "dd"
    refine ite2 (fun c => ?_) (fun c => ?_)
    · have c' : l ≤ t.bound := by have := of_decide_eq_true c; omega
      repeat walk_at "dd"
      exact R_eq r (by rw [show Tm.within t.text t.bound l = t.text from if_pos c'])
    · have c' : ¬ l ≤ t.bound := fun z => c (decide_eq_true (by omega))
      have e1 : ("(" : Str).length = 1 := by decide
      have e2 : (")" : Str).length = 1 := by decide
      repeat walk_at "dd"
      refine ⟨line5 (by omega), ?_⟩
      repeat walk_at "dd"
      refine ⟨line5 (by rw [Tm.app_len]; omega), ?_⟩
      exact R_eq r (by rw [show Tm.within t.text t.bound l = Tm.par t.text from if_neg c']; rfl)⟩
theorem c_text_step (T : Tp w K mg) {n k : Nat} (hk : 1 ≤ k) (C_number_text : Callee P w K mg base 1 "number_text" ["number"] (spD K S_number_text)) (C_text_of : Callee P w K mg base (k + 1) "text_of" ["term"] (spD K (S_text n)))
    (C_text_within : Callee P w K mg base (k + 1) "text_within" ["term", "least"] (spD K (S_within n))) : Callee P w K mg base (k + 2) "text_of" ["term"] (spD K (S_text (n + 1))) := T.d_text_of.callee fun f fd F =>
  okD F sc_text_of (fun ds R h => by obtain ⟨_, _, rfl, _⟩ := h; rfl) fun cdv A outer s H E hr => ⟨_, (pss_cons (ps_if (pt_val (pe_callB call_isi (by rfl) T.z_isinstance (by decide +kernel) (pa_cons (pv 0) (pa_cons (pe_bltn (v := .ty "str") (by rfl) T.z_str (by decide +kernel) rfl) pa_nil)))) (pss_one (ps_ret (pv 0))) pss_nil) (pss_cons (ps_set (i := 1) sc_text_of.nd rfl (.inl rfl) (pe_ix ix_tup (pv 0) pe_int (fun _ _ => rfl))) (pss_cons (ps_if (pt_cmpR op_eq (pv 1) (pe_gk T.g_TIMES rfl) (nomark _)) (pss_one (ps_ret (pe_op op_addStr (pe_op op_addStr (pe_gk T.g_TIMES rfl) (pe_gk T.g_BLANK rfl)) (pe_cl C_number_text (hr.mono (by omega)) (by rfl) (pa_cons (pe_ix ix_tup (pv 0) pe_int (fun _ _ => rfl)) pa_nil))))) pss_nil) (pss_cons (ps_if (pt_cmpR op_eq (pv 1) (pe_gk T.g_TURNED rfl) (nomark _)) (pss_one (ps_ret (pe_op op_addStr (pe_cl C_text_within (hr.mono (by omega)) (by rfl) (pa_cons (pe_ix ix_tup (pv 0) pe_int (fun _ _ => rfl)) (pa_cons (pe_gk T.g_TIGHT rfl) pa_nil))) pe_str))) pss_nil) (pss_cons (ps_if (pt_cmpR op_eq (pv 1) (pe_gk T.g_LOOP rfl) (nomark _)) (pss_one (ps_ret (pe_op op_addStr (pe_op op_addStr (pe_op op_addStr (pe_gk T.g_LOOP rfl) pe_str) (pe_cl C_text_of (hr.mono (by omega)) (by rfl) (pa_cons (pe_ix ix_tup (pv 0) pe_int (fun _ _ => rfl)) pa_nil))) pe_str))) pss_nil) (pss_cons (ps_if (pt_cmpR op_eq (pv 1) (pe_gk T.g_BESIDE rfl) (nomark _)) (pss_one (ps_ret (pe_op op_addStr (pe_op op_addStr (pe_cl C_text_within (hr.mono (by omega)) (by rfl) (pa_cons (pe_ix ix_tup (pv 0) pe_int (fun _ _ => rfl)) (pa_cons (pe_gk T.g_MIDDLE rfl) pa_nil))) pe_str) (pe_cl C_text_within (hr.mono (by omega)) (by rfl) (pa_cons (pe_ix ix_tup (pv 0) pe_int (fun _ _ => rfl)) (pa_cons (pe_gk T.g_TIGHT rfl) pa_nil)))))) pss_nil) (pss_one (ps_ret (pe_op op_addStr (pe_op op_addStr (pe_cl C_text_within (hr.mono (by omega)) (by rfl) (pa_cons (pe_ix ix_tup (pv 0) pe_int (fun _ _ => rfl)) (pa_cons (pe_gk T.g_LOOSE rfl) pa_nil))) pe_str) (pe_cl C_text_within (hr.mono (by omega)) (by rfl) (pa_cons (pe_ix ix_tup (pv 0) pe_int (fun _ _ => rfl)) (pa_cons (pe_gk T.g_MIDDLE rfl) pa_nil)))))))))))), fun W ds R h => by
    obtain ⟨t, g, rfl, hn, hp, hd, r⟩ := h
    try dsimp only [cxOf]
    refine (show DS K W _ [.d t.d, .no] _ from ?_)
    have tl := Tm.text_len t hn
    cases t with
    | word wd =>
      repeat walk_at "dd"
      exact r
    | times a b =>
      obtain ⟨hn1, hn2, hn3⟩ := hn
      have e1 : ("times" : Str).length = 5 := by decide
      have e2 : (" " : Str).length = 1 := by decide
      have e3 := Tm.numT_len hn2 hn3
      repeat walk_at "dd"
      refine ⟨hn2, hn3, ?_⟩
      repeat walk_at "dd"
      refine ⟨line5 (by rw [Tm.app_len]; omega), ?_⟩
      exact r
    | turned t =>
      have hdt : t.deep ≤ n := Nat.le_of_succ_le_succ hd
      have hpt : t.parts + 1 ≤ 80 := hp
      have tt := Tm.text_len t hn
      have tw := Tm.within_len t.text t.bound 2
      have e1 : ("'" : Str).length = 1 := by decide
      repeat walk_at "dd"
      refine ⟨t, g, 2, rfl, hn, by omega, hdt, ?_⟩
      repeat walk_at "dd"
      refine ⟨line5 (by omega), ?_⟩
      exact r
    | loop t =>
      have hdt : t.deep ≤ n := Nat.le_of_succ_le_succ hd
      have hpt : t.parts + 1 ≤ 80 := hp
      have tt := Tm.text_len t hn
      have e1 : ("loop" : Str).length = 4 := by decide
      have e2 : ("(" : Str).length = 1 := by decide
      have e3 : (")" : Str).length = 1 := by decide
      repeat walk_at "dd"
      refine ⟨t, g, rfl, hn, by omega, hdt, ?_⟩
      repeat walk_at "dd"
      refine ⟨line5 (by rw [Tm.app_len]; omega), ?_⟩
      repeat walk_at "dd"
      refine ⟨line5 (by rw [Tm.app_len, Tm.app_len]; omega), ?_⟩
      exact r
    | thn t u =>
      have hd' : max t.deep u.deep ≤ n := Nat.le_of_succ_le_succ hd
      have hdt : t.deep ≤ n := Nat.le_trans (Nat.le_max_left _ _) hd'
      have hdu : u.deep ≤ n := Nat.le_trans (Nat.le_max_right _ _) hd'
      have hpt : t.parts + u.parts + 1 ≤ 80 := hp
      have t1 := Tm.text_len t hn.1
      have t2 := Tm.text_len u hn.2
      have w1 := Tm.within_len t.text t.bound 0
      have w2 := Tm.within_len u.text u.bound 1
      have e1 : (" ; " : Str).length = 3 := by decide
      repeat walk_at "dd"
      refine ⟨t, g, 0, rfl, hn.1, by omega, hdt, ?_⟩
      repeat walk_at "dd"
      refine ⟨line5 (by omega), ?_⟩
      repeat walk_at "dd"
      refine ⟨u, g, 1, rfl, hn.2, by omega, hdu, ?_⟩
      repeat walk_at "dd"
      refine ⟨line5 (by rw [Tm.app_len]; omega), ?_⟩
      exact r
    | bes t u =>
      have hd' : max t.deep u.deep ≤ n := Nat.le_of_succ_le_succ hd
      have hdt : t.deep ≤ n := Nat.le_trans (Nat.le_max_left _ _) hd'
      have hdu : u.deep ≤ n := Nat.le_trans (Nat.le_max_right _ _) hd'
      have hpt : t.parts + u.parts + 1 ≤ 80 := hp
      have t1 := Tm.text_len t hn.1
      have t2 := Tm.text_len u hn.2
      have w1 := Tm.within_len t.text t.bound 1
      have w2 := Tm.within_len u.text u.bound 2
      have e1 : (", " : Str).length = 2 := by decide
      repeat walk_at "dd"
      refine ⟨t, g, 1, rfl, hn.1, by omega, hdt, ?_⟩
      repeat walk_at "dd"
      refine ⟨line5 (by omega), ?_⟩
      repeat walk_at "dd"
      refine ⟨u, g, 2, rfl, hn.2, by omega, hdu, ?_⟩
      repeat walk_at "dd"
      refine ⟨line5 (by rw [Tm.app_len]; omega), ?_⟩
      exact r⟩
theorem text_zero (ds : List PyData) (R : PyData → Prop) : ¬ S_text 0 ds R := fun ⟨t, _, _, _, _, h, _⟩ => by
  have := t.deep_pos
  omega
theorem c_text_of (T : Tp w K mg) (C_number_text : Callee P w K mg base 1 "number_text" ["number"] (spD K S_number_text)) (C_bound_of : Callee P w K mg base 1 "bound_of" ["term"] (spD K S_bound)) : ∀ n : Nat, Callee P w K mg base (2 * n + 1) "text_of" ["term"] (spD K (S_text n))
  | 0 => none_callee T.d_text_of text_zero
  | n + 1 =>
    have h := c_text_of T C_number_text C_bound_of n
    c_text_step (k := 2 * n + 1) T (by omega) C_number_text (h.mono (by omega)) (c_within T (by omega) C_bound_of h)
def S_term_text (ds : List PyData) (R : PyData → Prop) : Prop := ∃ (g : Int) (t : Tm), ds = [.int g, t.d] ∧ isGr (.int g) = true ∧ Right g t ∧ R (.str t.text)
theorem c_term_text (T : Tp w K mg) (C_is_term : Callee P w K mg base 33 "is_term" ["ground", "thing"] (spD K S_is_term)) (C_text_of : Callee P w K mg base 61 "text_of" ["term"] (spD K (S_text 30))) :
    Callee P w K mg base 62 "term_text" ["ground", "term"] (spD K S_term_text) := T.d_term_text.callee fun f fd F =>
  okD F sc_term_text (fun ds R h => by obtain ⟨_, _, rfl, _⟩ := h; rfl) fun cdv A outer s H E hr => ⟨_, (pss_cons (ps_if (pt_not (pt_val (pe_cl C_is_term (hr.mono (by omega)) (by rfl) (pa_cons (pv 0) (pa_cons (pv 1) pa_nil))))) (pss_one ps_never) pss_nil) (pss_one (ps_ret (pe_cl C_text_of (hr.mono (by omega)) (by rfl) (pa_cons (pv 1) pa_nil))))), fun W ds R h => by
    obtain ⟨g, t, rfl, hg, ht, r⟩ := h
    try dsimp only [cxOf]
    refine (show DS K W _ [.d (.int g), .d t.d] _ from ?_)
    repeat walk_at "dd"
    refine ⟨hg, ht, ?_⟩
    repeat walk_at "dd"
    exact ⟨t, g, rfl, ht.1, ht.2.1, ht.2.2.1, r⟩⟩
end
end K86
set_option Elab.async false
set_option linter.all false
set_option maxRecDepth 100000
set_option maxHeartbeats 1000000
namespace K86
open PySem PyProof.Rows L2 DL KT
local macro_rules | `(tactic| walk_at "dd") => `(tactic| first
  | with_reducible refine dsf_nil ?_ | with_reducible refine dsf_seq ?_ | with_reducible refine dsf_if ?_ | with_reducible refine dsf_lift (ds_set ?_) | with_reducible refine dsf_lift (ds_ret ?_) | with_reducible refine dsf_lift (ds_par ?_)
  | with_reducible refine ds_nil ?_ | with_reducible refine ds_seq ?_ | with_reducible refine ds_ret ?_ | with_reducible refine ds_retN ?_ | with_reducible refine ds_set ?_ | with_reducible refine ds_if ?_ | with_reducible refine ds_drop ?_ | with_reducible refine ds_par ?_
  | ((with_reducible refine' de_var ?h ?_); (case h => rfl)) | ((with_reducible refine' de_c ?h ?_); (case h => rfl))
  | with_reducible refine de_I0 ?_ | with_reducible refine de_B0 ?_ | with_reducible refine de_I ?_ | with_reducible refine de_addStr ?_ | with_reducible refine de_eqS ?_ | with_reducible refine de_neS ?_ | with_reducible refine de_eqD ?_ | with_reducible refine de_neD ?_ | with_reducible refine de_isNo ?_ | with_reducible refine de_isNot ?_
  | with_reducible refine de_ixT ?_ | with_reducible refine de_ixL ?_ | with_reducible refine de_neg ?_ | with_reducible refine de_catT ?_ | with_reducible refine de_tail ?_ | with_reducible refine de_in ?_ | with_reducible refine de_inTab ?_ | with_reducible refine de_ixTab ?_ | with_reducible refine de_tabGet ?_ | with_reducible refine de_inD ?_
  | with_reducible refine de_abs ?_ | with_reducible refine de_int ?_ | with_reducible refine de_intBB ?_ | with_reducible refine de_str ?_ | with_reducible refine de_max ?_ | with_reducible refine de_min ?_ | with_reducible refine de_len ?_ | with_reducible refine de_lenS ?_ | with_reducible refine de_list ?_ | with_reducible refine de_tuple ?_
  | with_reducible refine de_isTup ?_ | with_reducible refine de_isLst ?_ | with_reducible refine de_isStr ?_ | with_reducible refine de_isBool ?_ | with_reducible refine de_isInt ?_
  | with_reducible refine de_tup ?_ | with_reducible refine de_lst ?_ | with_reducible refine de_call ?_ | ((with_reducible refine' de_callU ?h ?_); (case h => assumption))
  | with_reducible refine da_nil ?_ | ((with_reducible refine' da_consV ?h ?_); (case h => rfl)) | with_reducible refine da_cons ?_
  | with_reducible refine dt_test ?_ | with_reducible refine dt_B ?_ | with_reducible refine dt_not ?_ | with_reducible refine dt_and ?_ | with_reducible refine dt_or ?_
  | with_reducible refine de_andV ?_ | with_reducible refine de_orV ?_ | with_reducible refine de_notV ?_ | with_reducible refine de_if ?_
  | with_reducible refine de_chain od_B0 od_B0 ?_ | with_reducible refine dt_yes ?_
  | ((with_reducible refine' iteB ?h ?_); (case h => rfl)) | ((with_reducible refine' iteN ?h ?_); (case h => rfl))
  | refine ⟨_, _, _, rfl, rfl, rfl, ?_⟩ | refine ⟨_, _, rfl, rfl, True.intro, ?_⟩ | refine ⟨Nat.le_of_ble_eq_true rfl, ?_⟩ | refine ⟨_, .inl rfl, rfl, rfl, ?_⟩ | refine ⟨_, .inl rfl, ?_⟩ | refine ⟨_, .inr rfl, ?_⟩ | refine ⟨_, rfl, ?_⟩ | refine ⟨rfl, rfl, ?_⟩ | refine ⟨_, _, rfl, rfl, ?_⟩ | refine ⟨_, _, rfl, ?_⟩ | refine ⟨_, _, _, rfl, ?_⟩ | refine ⟨rfl, ?_⟩)

section
variable {P : Program} {w : World} {K : PySem.W.Frag} {mg : Str → Option Value} {base : Heap}
theorem c__law_urn (T : Tp w K mg) : Callee P w K mg base 1 "_law_urn" ["script"] (spMk K) := T.d__law_urn.callee fun f fd F =>
  okMk F sc__law_urn fun cdv A outer s H E hr => ⟨_, (pss_one (ps_ret (pe_lst (pa_cons (pe_lc (own := [("cell", 1)]) (g := (gName 1)) (tt := tYes) rfl sc__law_urn.nd (pi_list (pe_slice sl_list (pv 0) po_none (po_some pe_int))) (blkOk_by (N := N__law_urn) (sc := defScope s__law_urn) (by decide +kernel)) (fun _ _ _ _ _ => (pg_name (i := 1) sc__law_urn.nd rfl (.inl rfl))) (fun _ _ _ _ _ => pts_nil) (fun _ _ _ _ _ => (pe_callB cb_abs (by rfl) T.z_abs (by decide +kernel) (pa_cons (pe_callTy cb_int (by rfl) T.z_int (by decide +kernel) (pa_cons (pv 1) pa_nil)) pa_nil)))) (pa_cons pe_int (pa_cons pe_int (pa_cons pe_int (pa_cons pe_int pa_nil)))))))), fun W ns => by
    try dsimp only [cxOf]
    refine (show EN K W _ [.d (.list (ns.map PyData.int)), .no] _ from ?_)
    refine en_lst ?_
    walk_at "dd"
    refine de_lcL sh_any ?_
    refine de_takeL (m := 63) ?_
    walk_at "dd"
    refine ⟨_, rfl, ?_⟩
    have e63 : (ns.map PyData.int).take 63 = (ns.take 63).map PyData.int := by rw [List.map_take]
    have l63 : (ns.take 63).length ≤ 63 := by rw [List.length_take]; omega
    refine ⟨_, rfl, by rw [e63, List.length_map]; omega, fun i y => ∃ n : Int, (ns.take 63)[i]? = some n ∧ y = .int (n.natAbs : Int), fun _ => False, fun i x hx => ?_, fun ys hy => ?_⟩
    · rw [e63, List.getElem?_map] at hx
      obtain ⟨n, hn, rfl⟩ := Option.map_eq_some_iff.mp hx
      refine ⟨_, cg_name (by decide), fun W' _ => ?_⟩
      repeat walk_at "dd"
      exact ⟨n, hn, rfl⟩
    · rw [e63, List.length_map] at hy
      have ey := hy.mapL (f := fun n : Int => .int (n.natAbs : Int)) fun i y h => h
      subst ey
      repeat walk_at "dd"
      exact ⟨(ns.take 63).map fun n => (n.natAbs : Int), by rw [List.length_map]; omega, by rw [List.map_map]; rfl⟩⟩
def S_pull (ds : List PyData) (R : PyData → Prop) : Prop := ∃ m : Int, ds = [.int m] ∧ 0 < m ∧ m < 1073741824 ∧ ∀ n : Int, 0 ≤ n → n < m → R (.int n)
theorem atI_ints {cells : List Int} {a : Int} (h0 : 0 ≤ a) (h : a < (cells.length : Int)) : ∃ cell, atI (cells.map PyData.int) a = some (.int cell) := by
  obtain ⟨j, rfl⟩ := Int.eq_ofNat_of_zero_le h0
  have hj : j < cells.length := by omega
  exact ⟨cells[j], atI_nat (by rw [List.getElem?_map, List.getElem?_eq_getElem hj]; rfl)⟩
theorem c__law_pull (T : Tp w K mg) : Callee P w K mg base 1 "_law_pull" ["urn", "many"] (spU K S_pull) := by
  obtain ⟨f, fd, F, b, m⟩ := T.d__law_pull.ex
  refine ⟨f, fd, okUE F sc__law_pull (fun ds R h => by obtain ⟨_, rfl, _⟩ := h; rfl) fun cdv A outer s H E hr => ⟨_, (pss_cons (ps_if (PW.pt (pw_and (pt_cmpR (op_eqD hr.units) (pe_ix ix_list (pv 0) pe_int (fun _ _ => rfl)) pe_int (nomark _)) (pw_and1 (pt_cmpR op_lt (pe_ix ix_list (pv 0) pe_int (fun _ _ => rfl)) (pe_callB cb_len (by rfl) T.z_len (by decide +kernel) (pa_cons (pe_ix ix_list (pv 0) pe_int (fun _ _ => rfl)) pa_nil)) (nomark _))))) (pss_cons (ps_set (i := 2) sc__law_pull.nd rfl (.inl rfl) (pe_ix ix_list (pe_ix ix_list (pv 0) pe_int (fun _ _ => rfl)) (pe_ix ix_list (pv 0) pe_int (fun _ _ => rfl)) (fun _ _ => rfl))) (pss_cons (ps_asg (pe_op op_add (pe_ix ix_list (pv 0) pe_int (fun _ _ => rfl)) pe_int) (pg_sub (pv 0) pe_int set_list)) (pss_cons (ps_asg (pe_op op_mod (pe_callTy cb_int (by rfl) T.z_int (by decide +kernel) (pa_cons (pe_op op_add (pe_op op_add (pe_op op_mul (pe_ix ix_list (pv 0) pe_int (fun _ _ => rfl)) pe_int) (pe_op op_mul (pv 2) pe_int)) pe_int) pa_nil)) pe_int) (pg_sub (pv 0) pe_int set_list)) (pss_one (ps_if (pt_cmpR op_ge (pv 2) (pe_op op_pow pe_int pe_int) (nomark _)) (pss_one (ps_asg (pv 2) (pg_sub (pv 0) pe_int set_list))) pss_nil))))) pss_nil) (pss_cons (ps_if (pt_cmpR op_gt (pe_ix ix_list (pv 0) pe_int (fun _ _ => rfl)) pe_int (nomark _)) (pss_cons (ps_set (i := 3) sc__law_pull.nd rfl (.inl rfl) (pe_op op_mod (pe_callTy cb_int (by rfl) T.z_int (by decide +kernel) (pa_cons (pe_ix ix_list (pv 0) pe_int (fun _ _ => rfl)) pa_nil)) (pv 1))) (pss_cons (ps_asg (pe_op op_fdiv (pe_ix ix_list (pv 0) pe_int (fun _ _ => rfl)) (pv 1)) (pg_sub (pv 0) pe_int set_list)) (pss_one (ps_ret (pv 3))))) pss_nil) (pss_cons (ps_asg (pe_op op_add (pe_ix ix_list (pv 0) pe_int (fun _ _ => rfl)) pe_int) (pg_sub (pv 0) pe_int set_list)) (pss_cons (ps_set (i := 4) sc__law_pull.nd rfl (.inl rfl) (pe_op op_mod (pe_callTy cb_int (by rfl) T.z_int (by decide +kernel) (pa_cons (pe_op op_mul (pe_op op_add (pe_ix ix_list (pv 0) pe_int (fun _ _ => rfl)) (pe_op op_mul pe_int (pe_ix ix_list (pv 0) pe_int (fun _ _ => rfl)))) pe_int) pa_nil)) pe_int)) (pss_cons (ps_set (i := 4) sc__law_pull.nd rfl (.inl rfl) (pe_op op_mod (pe_callTy cb_int (by rfl) T.z_int (by decide +kernel) (pa_cons (pe_op op_mul (pv 4) (pe_op op_add (pe_op op_fdiv (pv 4) pe_int) pe_int)) pa_nil)) pe_int)) (pss_cons (ps_set (i := 4) sc__law_pull.nd rfl (.inl rfl) (pe_op op_mod (pe_callTy cb_int (by rfl) T.z_int (by decide +kernel) (pa_cons (pe_op op_mul (pv 4) (pe_op op_add (pe_op op_fdiv (pv 4) pe_int) pe_int)) pa_nil)) pe_int)) (pss_one (ps_ret (pe_op op_mod (pe_callTy cb_int (by rfl) T.z_int (by decide +kernel) (pa_cons (pe_op op_fdiv (pv 4) pe_int) pa_nil)) (pv 1)))))))))), fun W u c cells us ds R hW hc ha h => ?_⟩, b, F.kp, m⟩
  obtain ⟨m, rfl, h1, h2, r⟩ := h
  try dsimp only [cxOf]
  refine (show DSf K (fun s => W.urnE K u c cells s) _ us [.v (.ref u), .d (.int m), .no, .no, .no] _ from ?_)
  refine dsf_seq (dsf_cut (fun us' Γ => 0 ≤ us'.at_ ∧ ∃ x, Γ = [.v (.ref u), .d (.int m), x, .no, .no]) ?_ ?_)
  · refine dsf_if (dt_and (dt_test (de_eqD (de_urn (k := 2) rfl (by decide) ?_))))
    repeat walk_at "dd"
    refine ite2 (fun c1 => ?_) (fun c1 => ?_)
    · refine dt_test (de_B0 (de_urn (k := 1) rfl (by decide) ?_))
      refine de_len (da_cons (de_urn0 rfl ?_))
      repeat walk_at "dd"
      refine ite2 (fun c2 => ?_) (fun c2 => ?_)
      · have c2' : us.at_ < ((cells.map PyData.int).length : Int) := of_decide_eq_true c2
        rw [List.length_map] at c2'
        obtain ⟨cell, hat⟩ := atI_ints ha c2'
        refine dsf_seq (dsf_lift (ds_set (de_ixL (de_urn0 rfl (de_urn (k := 1) rfl (by decide) ⟨_, _, _, rfl, rfl, hat, ?_⟩)))))
        refine (show DSf K (fun s => W.urnE K u c cells s) _ us [.v (.ref u), .d (.int m), .d (.int cell), .no, .no] _ from ?_)
        refine dsf_seq (dsf_urn (k := 1) rfl hW (by decide) (de_I0 (de_urn (k := 1) rfl (by decide) ?_)))
        repeat walk_at "dd"
        refine ⟨by show 0 ≤ us.at_ + 1; omega, ?_⟩
        refine dsf_seq (dsf_urn (k := 3) rfl hW (by decide) ?_)
        refine de_I (de_int (da_cons (de_I0 (de_I0 (de_I (de_urn (k := 3) rfl (by decide) ?_))))))
        repeat walk_at "dd"
        refine ⟨.inr ⟨by decide, by decide⟩, ?_⟩
        repeat walk_at "dd"
        refine ⟨.inr ⟨by decide, by decide⟩, ?_⟩
        repeat walk_at "dd"
        refine ⟨by decide, ?_⟩
        repeat walk_at "dd"
        refine ⟨by show 0 ≤ us.at_ + 1; omega, ?_⟩
        repeat walk_at "dd"
        refine ⟨⟨by decide, by decide, by decide⟩, ?_⟩
        repeat walk_at "dd"
        refine ite2 (fun c3 => ?_) (fun c3 => ?_)
        · exact dsf_urn (k := 2) rfl hW (by decide) (de_var rfl ⟨_, rfl, by show 0 ≤ us.at_ + 1; omega, by show 0 ≤ us.at_ + 1; omega, _, rfl⟩)
        · exact dsf_nil ⟨by show 0 ≤ us.at_ + 1; omega, _, rfl⟩
      · exact dsf_nil ⟨ha, _, rfl⟩
    · exact dsf_nil ⟨ha, _, rfl⟩
  · intro us' Γ hI
    obtain ⟨ha', x, rfl⟩ := hI
    refine dsf_seq (dsf_if (dt_test (de_B0 (de_urn (k := 2) rfl (by decide) ?_))))
    repeat walk_at "dd"
    refine ite2 (fun c1 => ?_) (fun c1 => ?_)
    · refine dsf_seq (dsf_lift (ds_set (de_I (de_int (da_cons (de_urn (k := 2) rfl (by decide) ?_))))))
      repeat walk_at "dd"
      refine ⟨h1, ?_⟩
      refine dsf_seq (dsf_urn (k := 2) rfl hW (by decide) (de_I (de_urn (k := 2) rfl (by decide) ?_)))
      repeat walk_at "dd"
      refine ⟨⟨h1, h2⟩, ?_⟩
      repeat walk_at "dd"
      refine ⟨ha', ?_⟩
      refine dsf_lift (ds_ret (de_var rfl ?_))
      exact r _ (Int.emod_nonneg _ (by omega)) (Int.emod_lt_of_pos _ h1)
    · refine dsf_nil ?_
      refine dsf_seq (dsf_urn (k := 4) rfl hW (by decide) (de_I0 (de_urn (k := 4) rfl (by decide) ?_)))
      repeat walk_at "dd"
      refine ⟨ha', ?_⟩
      refine dsf_seq (dsf_lift (ds_set (de_I (de_int (da_cons (de_I (de_I0 (de_urn (k := 3) rfl (by decide) (de_I (de_c rfl (de_urn (k := 4) rfl (by decide) ?_))))))))))) 
      repeat walk_at "dd"
      refine ⟨.inl ⟨by decide, by decide⟩, ?_⟩
      repeat walk_at "dd"
      refine ⟨.inr ⟨by decide, by decide⟩, ?_⟩
      repeat walk_at "dd"
      refine ⟨by decide, ?_⟩
      generalize (_ : Int) * 16807 = n0
      refine (show DSf K (fun s => W.urnE K u c cells s) _ (us'.put 4 (us'.get 4 + 1)) [.v (.ref u), .d (.int m), x, .no, .d (.int (n0 % 2147483647))] _ from ?_)
      have b0 := Int.emod_nonneg n0 (show (2147483647 : Int) ≠ 0 by decide)
      have b1 := Int.emod_lt_of_pos n0 (show (0 : Int) < 2147483647 by decide)
      generalize n0 % 2147483647 = n1 at b0 b1
      refine dsf_seq (dsf_lift (ds_set ?_))
      repeat walk_at "dd"
      refine ⟨⟨by decide, by decide⟩, ?_⟩
      repeat walk_at "dd"
      refine ⟨.inl ⟨by omega, by omega⟩, ?_⟩
      repeat walk_at "dd"
      refine ⟨by decide, ?_⟩
      generalize n1 * _ = n2
      refine (show DSf K (fun s => W.urnE K u c cells s) _ (us'.put 4 (us'.get 4 + 1)) [.v (.ref u), .d (.int m), x, .no, .d (.int (n2 % 2147483647))] _ from ?_)
      have b2 := Int.emod_nonneg n2 (show (2147483647 : Int) ≠ 0 by decide)
      have b3 := Int.emod_lt_of_pos n2 (show (0 : Int) < 2147483647 by decide)
      generalize n2 % 2147483647 = n3 at b2 b3
      refine dsf_seq (dsf_lift (ds_set ?_))
      repeat walk_at "dd"
      refine ⟨⟨by decide, by decide⟩, ?_⟩
      repeat walk_at "dd"
      refine ⟨.inl ⟨by omega, by omega⟩, ?_⟩
      repeat walk_at "dd"
      refine ⟨by decide, ?_⟩
      refine dsf_lift (ds_ret ?_)
      repeat walk_at "dd"
      refine ⟨⟨by decide, by decide⟩, ?_⟩
      repeat walk_at "dd"
      refine ⟨h1, ?_⟩
      exact r _ (Int.emod_nonneg _ (by omega)) (Int.emod_lt_of_pos _ h1)
def S_any (ds : List PyData) (R : PyData → Prop) : Prop := ∃ es, ds = [.list es] ∧ es ≠ [] ∧ es.length < 1000000 ∧ ∀ d ∈ es, R d
theorem atI_mem {es : List PyData} {n : Int} (h0 : 0 ≤ n) (h1 : n < (es.length : Int)) : ∃ d, atI es n = some d ∧ d ∈ es := by
  obtain ⟨j, rfl⟩ := Int.eq_ofNat_of_zero_le h0
  have hj : j < es.length := by omega
  exact ⟨es[j], atI_nat (List.getElem?_eq_getElem hj), List.getElem_mem hj⟩
theorem c__law_any (T : Tp w K mg) (C__law_pull : Callee P w K mg base 1 "_law_pull" ["urn", "many"] (spU K S_pull)) : Callee P w K mg base 2 "_law_any" ["urn", "things"] (spU K S_any) := by
  obtain ⟨f, fd, F, b, m⟩ := T.d__law_any.ex
  refine ⟨f, fd, okU F sc__law_any (fun ds R h => by obtain ⟨_, rfl, _⟩ := h; rfl) fun cdv A outer s H E hr => ⟨_, (pss_one (ps_ret (pe_ix ix_list (pv 1) (pe_cl C__law_pull (hr.mono (by omega)) (by rfl) (pa_cons (pv 0) (pa_cons (pe_callB cb_len (by rfl) T.z_len (by decide +kernel) (pa_cons (pv 1) pa_nil)) pa_nil))) (fun _ _ => rfl)))), fun W u ds R hW h => ?_⟩, b, F.kp, m⟩
  obtain ⟨es, rfl, h1, h2, r⟩ := h
  try dsimp only [cxOf]
  refine (show DS K (W.urn K u) _ [.v (.ref u), .d (.list es)] _ from ?_)
  repeat walk_at "dd"
  have hl := List.length_pos_iff.mpr h1
  refine ⟨by omega, by omega, fun n n0 n1 => ?_⟩
  obtain ⟨d, ed, hd⟩ := atI_mem n0 n1
  exact ⟨_, _, _, rfl, rfl, ed, r d hd⟩
def spAnyP (K : PySem.W.Frag) : Sp := fun vs H Q _ => ∃ (u D : Addr) (W : Own) (G : Hp) (ds : List PyData) (R : PyData → Prop), vs = [.ref u, .ref D] ∧ ¬ W.us u ∧ ¬ (W.urn K u).us D ∧ ((W.pool K D ds).urn K u).Ok G H ∧ ds ≠ [] ∧ ds.length < 1000000 ∧ (∀ d ∈ ds, R d) ∧
  ∀ v d G' H', Same G G' → ((W.pool K D ds).urn K u).Ok G' H' → Dp K G' v d → R d → Q v H'
theorem pool_nus {W : Own} {u D : Addr} {ds : List PyData} (hW : ¬ W.us u) (hD : ¬ (W.urn K u).us D) : ¬ (W.pool K D ds).us u := fun z => by
  rcases (show W.us u ∨ u = D from z) with z | z
  · exact hW z
  · exact hD (.inr z.symm)
theorem c__law_anyP (T : Tp w K mg) (C__law_pull : Callee P w K mg base 1 "_law_pull" ["urn", "many"] (spU K S_pull)) : Callee P w K mg base 2 "_law_any" ["urn", "things"] (spAnyP K) := by
  obtain ⟨f, fd, F, b, m⟩ := T.d__law_any.ex
  refine ⟨f, fd, F.ok sc__law_any (fun vs H Q E h => by obtain ⟨_, _, _, _, _, _, rfl, _⟩ := h; rfl) (fun cdv A outer s H vs Q E hr h => ?_), b, F.kp, m⟩
  obtain ⟨u, D, W, G, ds, R, rfl, hW, hD, wk, h1, h2, hR, kk⟩ := h
  refine ⟨_, (pss_one (ps_ret (pe_ix ix_list (pv 1) (pe_cl C__law_pull (hr.mono (by omega)) (by rfl) (pa_cons (pv 0) (pa_cons (pe_callB cb_len (by rfl) T.z_len (by decide +kernel) (pa_cons (pv 1) pa_nil)) pa_nil))) (fun _ _ => rfl)))), ?_⟩
  have e := en_start (N := N__law_any) (K := K) (G := G) (Paired.cons (show SlOk K G (some (V.ref u)) (.v (.ref u)) from rfl) (Paired.cons (show SlOk K G (some (V.ref D)) (.v (.ref D)) from rfl) .nil))
  have hU := pool_nus (K := K) (ds := ds) hW hD
  refine DS.run (W := (W.pool K D ds).urn K u) (R := R) ?_ wk e kk
  refine (show DS K ((W.pool K D ds).urn K u) _ [.v (.ref u), .v (.ref D)] _ from ?_)
  refine ds_ret (de_ixP (Wf := fun ds => (W.pool K D ds).urn K u) (ds := ds) (poolU hD) rfl ?_)
  refine de_callU hU (da_consV rfl (da_cons (de_lenP (Wf := fun ds => (W.pool K D ds).urn K u) (ds := ds) (poolU hD) rfl ?_)))
  repeat walk_at "dd"
  have hl := List.length_pos_iff.mpr h1
  refine ⟨by omega, by omega, fun n n0 n1 => ?_⟩
  obtain ⟨d, ed, hd⟩ := atI_mem n0 n1
  exact ⟨n, d, rfl, ed, hR d hd⟩
/-! numbers -/
theorem c__law_gcd (T : Tp w K mg) : Callee P w K mg base 1 "_law_gcd" ["one", "other"] (spD K S_divisor) := T.d__law_gcd.callee fun f fd F =>
  okD F sc__law_gcd (fun ds R h => by obtain ⟨_, _, rfl, _⟩ := h; rfl) fun cdv A outer s H E hr => ⟨_, (pss_cons (ps_while PassesOwn.never (pt_cmpR op_gt (pv 1) pe_int (nomark _)) (pss_one (ps_par (i := 0) (j := 1) (by rfl) sc__law_gcd.nd rfl rfl (by decide) rfl rfl (pa_cons (pv 1) (pa_cons (pe_op op_mod (pe_callTy cb_int (by rfl) T.z_int (by decide +kernel) (pa_cons (pv 0) pa_nil)) (pv 1)) pa_nil)) (by rfl)))) (pss_one (ps_ret (pv 0)))), fun W ds R h => by
    obtain ⟨a, b, rfl, ha, hb, r⟩ := h
    try dsimp only [cxOf]
    refine (show DS K W _ [.d (.int a), .d (.int b)] _ from ?_)
    refine ds_seq ?_
    refine ds_while (fun m Γ => ∃ x y : Int, Γ = [.d (.int x), .d (.int y)] ∧ 0 ≤ x ∧ 0 ≤ y ∧ m = y.toNat ∧ Nat.gcd x.natAbs y.natAbs = Nat.gcd a.natAbs b.natAbs) b.toNat ⟨a, b, rfl, ha, hb, rfl, rfl⟩ fun m Γ' h => ?_
    obtain ⟨x, y, rfl, hx, hy, rfl, e⟩ := h
    repeat walk_at "dd"
    refine ite2 (fun c => ?_) (fun c => ?_)
    · have c' : 0 < y := of_decide_eq_true c
      repeat walk_at "dd"
      refine ⟨c', ?_⟩
      repeat walk_at "dd"
      refine ⟨(x % y).toNat, ?_, y, x % y, rfl, hy, Int.emod_nonneg _ (by omega), rfl, ?_⟩
      · have := Int.emod_lt_of_pos x c'
        have := Int.emod_nonneg x (show y ≠ 0 by omega)
        omega
      · rw [gcd_turn hx c', e]
    · have c' : y = 0 := by
        have : ¬ 0 < y := fun z => c (decide_eq_true z)
        omega
      subst c'
      repeat walk_at "dd"
      exact R_eq r (by
        rw [← e]
        simp
        omega)⟩
theorem log_small {n : Nat} (h : n < 2 ^ 100) : n.log2 < 1920 := by
  by_cases e : n = 0
  · subst e; decide
  · exact (Nat.log2_lt e).mpr (Nat.lt_of_lt_of_le h (Nat.pow_le_pow_right (by decide) (by decide)))
theorem log_mono {m n : Nat} (h : m ≤ n) (hn : n.log2 < 1920) : m.log2 < 1920 := by
  by_cases e : m = 0
  · subst e; decide
  · exact (Nat.log2_lt e).mpr (Nat.lt_of_le_of_lt h ((Nat.log2_lt (by omega)).mp hn))
theorem num_div {a b : Int} {g : Nat} (hg : Nat.gcd a.natAbs b.natAbs = g) (hb : 0 < b) (ha1 : a.natAbs.log2 < 1920) (hb1 : b.natAbs.log2 < 1920) : 0 < g ∧ (g : Int).natAbs.log2 < 9000 ∧ Tm.numOk 0 (a / (g : Int)) (b / (g : Int)) := by
  have hg0 : 0 < g := by
    rw [← hg]
    exact Nat.gcd_pos_of_pos_right _ (by omega)
  have d1 : (g : Int) ∣ a := Int.ofNat_dvd_left.mpr (by rw [← hg]; exact Nat.gcd_dvd_left _ _)
  have d2 : (g : Int) ∣ b := Int.ofNat_dvd_left.mpr (by rw [← hg]; exact Nat.gcd_dvd_right _ _)
  have hgb : g ≤ b.natAbs := by
    rw [← hg]
    exact Nat.le_of_dvd (by omega) (Nat.gcd_dvd_right _ _)
  obtain ⟨x, hx⟩ := d1
  obtain ⟨y, hy⟩ := d2
  have hgz : (g : Int) ≠ 0 := by omega
  have e1 : a / (g : Int) = x := by rw [hx]; exact Int.mul_ediv_cancel_left x hgz
  have e2 : b / (g : Int) = y := by rw [hy]; exact Int.mul_ediv_cancel_left y hgz
  have n1 : a.natAbs = g * x.natAbs := by rw [hx, Int.natAbs_mul]; rfl
  have n2 : b.natAbs = g * y.natAbs := by rw [hy, Int.natAbs_mul]; rfl
  have hxa : x.natAbs ≤ a.natAbs := by rw [n1]; exact Nat.le_mul_of_pos_left _ hg0
  have hyb : y.natAbs ≤ b.natAbs := by rw [n2]; exact Nat.le_mul_of_pos_left _ hg0
  have hyp : 0 < y := by
    rw [hy] at hb
    exact Int.pos_of_mul_pos_right hb (by omega)
  have hgc : Nat.gcd x.natAbs y.natAbs = 1 := by
    rw [n1, n2, Nat.gcd_mul_left] at hg
    exact Nat.eq_of_mul_eq_mul_left hg0 (by omega)
  refine ⟨hg0, ?_, ?_⟩
  · have := log_mono hgb hb1
    show (g : Int).natAbs.log2 < 9000
    rw [Int.natAbs_natCast]
    omega
  · rw [e1, e2]
    exact ⟨by rw [if_neg (by decide)]; exact ⟨hyp, hgc⟩, log_mono hxa ha1, log_mono hyb hb1⟩
def S_num0 (ds : List PyData) (R : PyData → Prop) : Prop := ∃ a b : Int, ds = [.int 0, .int a, .int b] ∧ 0 < b ∧ a.natAbs.log2 < 1920 ∧ b.natAbs.log2 < 1920 ∧ ∀ x y, Tm.numOk 0 x y → R (.tuple [.int x, .int y])
theorem c__law_number (T : Tp w K mg) (C__law_gcd : Callee P w K mg base 1 "_law_gcd" ["one", "other"] (spD K S_divisor)) : Callee P w K mg base 2 "_law_number" ["ground", "top", "bottom"] (spD K S_num0) := T.d__law_number.callee fun f fd F =>
  okD F sc__law_number (fun ds R h => by obtain ⟨_, _, rfl, _⟩ := h; rfl) fun cdv A outer s H E hr => ⟨_, (pss_cons (ps_if (PW.pt (pw_and (pt_cmpR op_gt (pv 0) pe_int (nomark _)) (pw_and1 (pt_cmpR (op_eqD hr.units) (pv 2) pe_int (nomark _))))) (pss_one (ps_ret (pe_tup (pa_cons (pe_op op_mod (pe_callTy cb_int (by rfl) T.z_int (by decide +kernel) (pa_cons (pv 1) pa_nil)) (pv 0)) (pa_cons pe_int pa_nil))))) pss_nil) (pss_cons (ps_if (pt_cmpR op_gt (pv 0) pe_int (nomark _)) (pss_one (ps_ret (pe_ix ix_list (pe_lc (own := [("one", 4)]) (g := (gName 4)) rfl sc__law_number.nd (pi_range1 (by rfl) T.z_range (pa_cons (pv 0) pa_nil)) (blkOk_by (N := N__law_number) (sc := defScope s__law_number) (by decide +kernel)) (fun _ _ _ _ _ => (pg_name (i := 4) sc__law_number.nd rfl (.inl rfl))) (fun _ _ _ _ _ => (pts_one (pt_cmpR (op_eqDK (K := K) rfl hr.units) (pe_op op_mod (pe_callTy cb_int (by rfl) T.z_int (by decide +kernel) (pa_cons (pe_op op_sub (pe_op op_mul (pv 4) (pv 2)) (pv 1)) pa_nil)) (pv 0)) pe_int (nomark _)))) (fun _ _ _ _ _ => (pe_tup (pa_cons (pv 4) (pa_cons pe_int pa_nil))))) pe_int (fun _ _ => rfl)))) pss_nil) (pss_cons (ps_set (i := 3) sc__law_number.nd rfl (.inl rfl) (pe_cl C__law_gcd (hr.mono (by omega)) (by rfl) (pa_cons (pe_callB cb_abs (by rfl) T.z_abs (by decide +kernel) (pa_cons (pv 1) pa_nil)) (pa_cons (pe_callB cb_abs (by rfl) T.z_abs (by decide +kernel) (pa_cons (pv 2) pa_nil)) pa_nil)))) (pss_cons (ps_if (pt_cmpR op_lt (pv 2) pe_int (nomark _)) (pss_one (ps_set (i := 3) sc__law_number.nd rfl (.inl rfl) (pe_un un_neg (pv 3)))) pss_nil) (pss_one (ps_ret (pe_tup (pa_cons (pe_op op_fdivW (pv 1) (pv 3)) (pa_cons (pe_op op_fdivW (pv 2) (pv 3)) pa_nil))))))))), fun W ds R h => by
    obtain ⟨a, b, rfl, hb, ha1, hb1, r⟩ := h
    try dsimp only [cxOf]
    refine (show DS K W _ [.d (.int 0), .d (.int a), .d (.int b), .no, .no] _ from ?_)
    have hd : decide (b < 0) = false := decide_eq_false (by omega)
    obtain ⟨h1, h2, h3⟩ := num_div rfl hb ha1 hb1
    repeat walk_at "dd"
    refine ⟨by omega, by omega, ?_⟩
    repeat walk_at "dd"
    rw [hd]
    repeat walk_at "dd"
    refine ⟨⟨?_, ?_⟩, ?_⟩
    · show (0 : Int) < (Nat.gcd (((a.natAbs : Nat) : Int)).natAbs (((b.natAbs : Nat) : Int)).natAbs : Nat)
      rw [Int.natAbs_natCast, Int.natAbs_natCast]
      omega
    · show ((Nat.gcd (((a.natAbs : Nat) : Int)).natAbs (((b.natAbs : Nat) : Int)).natAbs : Nat) : Int).natAbs.log2 < 9000
      rw [Int.natAbs_natCast a.natAbs, Int.natAbs_natCast b.natAbs]
      exact h2
    repeat walk_at "dd"
    refine ⟨⟨?_, ?_⟩, ?_⟩
    · show (0 : Int) < (Nat.gcd (((a.natAbs : Nat) : Int)).natAbs (((b.natAbs : Nat) : Int)).natAbs : Nat)
      rw [Int.natAbs_natCast, Int.natAbs_natCast]
      omega
    · show ((Nat.gcd (((a.natAbs : Nat) : Int)).natAbs (((b.natAbs : Nat) : Int)).natAbs : Nat) : Int).natAbs.log2 < 9000
      rw [Int.natAbs_natCast a.natAbs, Int.natAbs_natCast b.natAbs]
      exact h2
    repeat walk_at "dd"
    refine r _ _ ?_
    rw [Int.natAbs_natCast a.natAbs, Int.natAbs_natCast b.natAbs]
    exact h3⟩
/-! draws -/
theorem gr_le {g : Int} (h : isGr (.int g) = true) : 0 ≤ g ∧ g ≤ 97 := by
  have h' : ((g == 0) || primes.contains g) = true := h
  rw [Bool.or_eq_true] at h'
  rcases h' with h' | h'
  · have := eq_of_beq h'
    omega
  · have h2 := List.contains_iff_mem.mp h'
    simp only [primes, List.mem_cons, List.not_mem_nil, or_false] at h2
    omega
theorem num_small {g a b : Int} (h : b = 1 ∧ a.natAbs < 100) (h2 : if 0 < g then 0 ≤ a ∧ a ≤ g - 1 else True) : Tm.numOk g a b := by
  obtain ⟨rfl, ha⟩ := h
  refine ⟨?_, log_small (Nat.lt_of_lt_of_le ha (by decide)), by decide⟩
  split
  · rename_i c
    rw [if_pos c] at h2
    exact ⟨h2.1, h2.2, rfl⟩
  · exact ⟨by decide, by simp⟩
def S_drawn (ds : List PyData) (R : PyData → Prop) : Prop := ∃ g : Int, ds = [.int g] ∧ isGr (.int g) = true ∧ ∀ a b, Tm.numOk g a b → R (.tuple [.int a, .int b])
theorem c__law_drawn (T : Tp w K mg) (C__law_pull : Callee P w K mg base 1 "_law_pull" ["urn", "many"] (spU K S_pull)) (C__law_any : Callee P w K mg base 2 "_law_any" ["urn", "things"] (spU K S_any)) (C__law_number : Callee P w K mg base 2 "_law_number" ["ground", "top", "bottom"] (spD K S_num0)) :
    Callee P w K mg base 3 "_law_drawn" ["urn", "ground"] (spU K S_drawn) := by
  obtain ⟨f, fd, F, b, m⟩ := T.d__law_drawn.ex
  refine ⟨f, fd, okU F sc__law_drawn (fun ds R h => by obtain ⟨_, rfl, _⟩ := h; rfl) fun cdv A outer s H E hr => ⟨_, (pss_cons (ps_if (pt_cmpR (op_eqD hr.units) (pe_cl C__law_pull (hr.mono (by omega)) (by rfl) (pa_cons (pv 0) (pa_cons pe_int pa_nil))) pe_int (nomark _)) (pss_one (ps_ret (pe_tup (pa_cons pe_int (pa_cons pe_int pa_nil))))) pss_nil) (pss_cons (ps_if (pt_cmpR op_gt (pv 1) pe_int (nomark _)) (pss_one (ps_ret (pe_tup (pa_cons (pe_cl C__law_pull (hr.mono (by omega)) (by rfl) (pa_cons (pv 0) (pa_cons (pv 1) pa_nil))) (pa_cons pe_int pa_nil))))) pss_nil) (pss_one (ps_ret (pe_cl C__law_number (hr.mono (by omega)) (by rfl) (pa_cons pe_int (pa_cons (pe_op op_sub (pe_cl C__law_pull (hr.mono (by omega)) (by rfl) (pa_cons (pv 0) (pa_cons pe_int pa_nil))) pe_int) (pa_cons (pe_cl C__law_any (hr.mono (by omega)) (by rfl) (pa_cons (pv 0) (pa_cons (pe_lst (pa_cons pe_int (pa_cons pe_int (pa_cons pe_int (pa_cons pe_int (pa_cons pe_int pa_nil)))))) pa_nil))) pa_nil)))))))), fun W u ds R hW h => ?_⟩, b, F.kp, m⟩
  obtain ⟨g, rfl, hg, r⟩ := h
  have hg0 : 0 ≤ g ∧ g ≤ 97 := gr_le hg
  try dsimp only [cxOf]
  refine (show DS K (W.urn K u) _ [.v (.ref u), .d (.int g)] _ from ?_)
  repeat walk_at "dd"
  refine ⟨by decide, by decide, fun n n0 n1 => ?_⟩
  repeat walk_at "dd"
  refine ite2 (fun c => ?_) (fun c => ?_)
  · repeat walk_at "dd"
    exact r 0 1 (num_small ⟨rfl, by decide⟩ (by split <;> first | trivial | omega))
  · repeat walk_at "dd"
    refine ite2 (fun c2 => ?_) (fun c2 => ?_)
    · have c2' : 0 < g := of_decide_eq_true c2
      repeat walk_at "dd"
      refine ⟨c2', by omega, fun n n0 n1 => ?_⟩
      repeat walk_at "dd"
      exact r n 1 (num_small (by omega) (by rw [if_pos c2']; omega))
    · have c2' : g = 0 := by
        have : ¬ 0 < g := fun z => c2 (decide_eq_true z)
        omega
      subst c2'
      repeat walk_at "dd"
      refine ⟨by decide, by decide, fun n n0 n1 => ?_⟩
      repeat walk_at "dd"
      refine ⟨by decide, by decide, fun d hd => ?_⟩
      have hd' : ∃ i : Int, d = .int i ∧ 0 < i ∧ i ≤ 3 := by
        simp only [List.mem_cons, List.not_mem_nil, or_false] at hd
        rcases hd with rfl | rfl | rfl | rfl | rfl <;> exact ⟨_, rfl, by decide, by decide⟩
      obtain ⟨i, rfl, i0, i3⟩ := hd'
      repeat walk_at "dd"
      exact ⟨i0, log_small (Nat.lt_of_le_of_lt (show (n - 4).natAbs ≤ 10 by omega) (by decide)), log_small (Nat.lt_of_le_of_lt (show i.natAbs ≤ 10 by omega) (by decide)), fun x y h => r x y h⟩
def S_ground (ds : List PyData) (R : PyData → Prop) : Prop := ds = [] ∧ ∀ g : Int, isGr (.int g) = true → R (.int g)
theorem c__law_ground (T : Tp w K mg) (C__law_any : Callee P w K mg base 2 "_law_any" ["urn", "things"] (spU K S_any)) : Callee P w K mg base 3 "_law_ground" ["urn"] (spU K S_ground) := by
  obtain ⟨f, fd, F, b, m⟩ := T.d__law_ground.ex
  refine ⟨f, fd, okU F sc__law_ground (fun ds R h => by obtain ⟨rfl, _⟩ := h; rfl) fun cdv A outer s H E hr => ⟨_, (pss_one (ps_ret (pe_cl C__law_any (hr.mono (by omega)) (by rfl) (pa_cons (pv 0) (pa_cons (pe_lst (pa_cons pe_int (pa_cons pe_int (pa_cons pe_int (pa_cons pe_int (pa_cons pe_int (pa_cons pe_int (pa_cons pe_int (pa_cons pe_int (pa_cons pe_int pa_nil)))))))))) pa_nil))))), fun W u ds R hW h => ?_⟩, b, F.kp, m⟩
  obtain ⟨rfl, r⟩ := h
  try dsimp only [cxOf]
  refine (show DS K (W.urn K u) _ [.v (.ref u)] _ from ?_)
  repeat walk_at "dd"
  refine ⟨by decide, by decide, fun d hd => ?_⟩
  have hd' : ∃ i : Int, d = .int i ∧ isGr (.int i) = true := by
    simp only [List.mem_cons, List.not_mem_nil, or_false] at hd
    rcases hd with rfl | rfl | rfl | rfl | rfl | rfl | rfl | rfl | rfl <;> exact ⟨_, rfl, rfl⟩
  obtain ⟨i, rfl, hi⟩ := hd'
  exact r i hi
end
end K86
set_option Elab.async false
set_option linter.all false
set_option maxRecDepth 100000
set_option maxHeartbeats 1000000
namespace K86
open PySem PyProof.Rows L2 DL KT
local macro_rules | `(tactic| walk_at "dd") => `(tactic| first
  | with_reducible refine dsf_nil ?_ | with_reducible refine dsf_seq ?_ | with_reducible refine dsf_if ?_ | with_reducible refine dsf_lift (ds_set ?_) | with_reducible refine dsf_lift (ds_ret ?_) | with_reducible refine dsf_lift (ds_par ?_)
  | with_reducible refine ds_nil ?_ | with_reducible refine ds_seq ?_ | with_reducible refine ds_ret ?_ | with_reducible refine ds_retN ?_ | with_reducible refine ds_set ?_ | with_reducible refine ds_if ?_ | with_reducible refine ds_drop ?_ | with_reducible refine ds_par ?_
  | ((with_reducible refine' de_var ?h ?_); (case h => rfl)) | ((with_reducible refine' de_c ?h ?_); (case h => rfl))
  | with_reducible refine de_I0 ?_ | with_reducible refine de_B0 ?_ | with_reducible refine de_I ?_ | with_reducible refine de_addStr ?_ | with_reducible refine de_eqS ?_ | with_reducible refine de_neS ?_ | with_reducible refine de_eqD ?_ | with_reducible refine de_neD ?_ | with_reducible refine de_isNo ?_ | with_reducible refine de_isNot ?_
  | with_reducible refine de_ixT ?_ | with_reducible refine de_ixL ?_ | with_reducible refine de_neg ?_ | with_reducible refine de_catT ?_ | with_reducible refine de_tail ?_ | with_reducible refine de_in ?_ | with_reducible refine de_inTab ?_ | with_reducible refine de_ixTab ?_ | with_reducible refine de_tabGet ?_ | with_reducible refine de_inD ?_
  | with_reducible refine de_abs ?_ | with_reducible refine de_int ?_ | with_reducible refine de_intBB ?_ | with_reducible refine de_str ?_ | with_reducible refine de_max ?_ | with_reducible refine de_min ?_ | with_reducible refine de_len ?_ | with_reducible refine de_lenS ?_ | with_reducible refine de_list ?_ | with_reducible refine de_tuple ?_
  | with_reducible refine de_isTup ?_ | with_reducible refine de_isLst ?_ | with_reducible refine de_isStr ?_ | with_reducible refine de_isBool ?_ | with_reducible refine de_isInt ?_
  | with_reducible refine de_tup ?_ | with_reducible refine de_lst ?_ | with_reducible refine de_call ?_ | ((with_reducible refine' de_callU ?h ?_); (case h => assumption))
  | with_reducible refine da_nil ?_ | ((with_reducible refine' da_consV ?h ?_); (case h => rfl)) | with_reducible refine da_cons ?_
  | with_reducible refine dt_test ?_ | with_reducible refine dt_B ?_ | with_reducible refine dt_not ?_ | with_reducible refine dt_and ?_ | with_reducible refine dt_or ?_
  | with_reducible refine de_andV ?_ | with_reducible refine de_orV ?_ | with_reducible refine de_notV ?_ | with_reducible refine de_if ?_
  | with_reducible refine de_chain od_B0 od_B0 ?_ | with_reducible refine dt_yes ?_
  | ((with_reducible refine' iteB ?h ?_); (case h => rfl)) | ((with_reducible refine' iteN ?h ?_); (case h => rfl))
  | refine ⟨_, _, _, rfl, rfl, rfl, ?_⟩ | refine ⟨_, _, rfl, rfl, True.intro, ?_⟩ | refine ⟨Nat.le_of_ble_eq_true rfl, ?_⟩ | refine ⟨_, .inl rfl, rfl, rfl, ?_⟩ | refine ⟨_, .inl rfl, ?_⟩ | refine ⟨_, .inr rfl, ?_⟩ | refine ⟨_, rfl, ?_⟩ | refine ⟨rfl, rfl, ?_⟩ | refine ⟨_, _, rfl, rfl, ?_⟩ | refine ⟨_, _, rfl, ?_⟩ | refine ⟨_, _, _, rfl, ?_⟩ | refine ⟨rfl, ?_⟩)

section
variable {P : Program} {w : World} {K : PySem.W.Frag} {mg : Str → Option Value} {base : Heap}
def S_sidesW (ds : List PyData) (R : PyData → Prop) : Prop := ∃ wd : Wd, ds = [.str wd.s] ∧ R (sdD wd.sd)
theorem c__law_sides (T : Tp w K mg) : Callee P w K mg base 1 "_law_sides" ["word"] (spD K S_sidesW) := T.d__law_sides.callee fun f fd F =>
  okD F sc__law_sides (fun ds R h => by obtain ⟨_, rfl, _⟩ := h; rfl) fun cdv A outer s H E hr => ⟨_, (pss_cons (ps_set (i := 1) sc__law_sides.nd rfl (.inl rfl) (pe_lst (pa_cons pe_str (pa_cons pe_str (pa_cons pe_str (pa_cons pe_str (pa_cons pe_str (pa_cons pe_str (pa_cons pe_str pa_nil))))))))) (pss_one (ps_ret (pe_ix ix_list (pe_lst (pa_cons (pe_tup (pa_cons pe_int (pa_cons pe_int pa_nil))) (pa_cons (pe_tup (pa_cons pe_int (pa_cons pe_int pa_nil))) (pa_cons (pe_tup (pa_cons pe_int (pa_cons pe_int pa_nil))) (pa_cons (pe_tup (pa_cons pe_int (pa_cons pe_int pa_nil))) (pa_cons (pe_tup (pa_cons pe_int (pa_cons pe_int pa_nil))) (pa_cons (pe_tup (pa_cons pe_int (pa_cons pe_int pa_nil))) (pa_cons (pe_tup (pa_cons pe_int (pa_cons pe_int pa_nil))) pa_nil)))))))) (pe_bm PySem.F.plainAttrs_list PySem.F.slot_list_index PySem.F.type_list_index mt_index (pv 1) (pa_cons (pv 0) pa_nil)) (fun _ _ => rfl))))), fun W ds R h => by
    obtain ⟨wd, rfl, r⟩ := h
    try dsimp only [cxOf]
    refine (show DS K W _ [.d (.str wd.s), .no] _ from ?_)
    cases wd <;>
    · repeat walk_at "dd"
      refine de_index ?_
      repeat walk_at "dd"
      refine ⟨_, rfl, rfl, rfl, ?_⟩
      repeat walk_at "dd"
      exact r⟩
def itemD (t : Tm) (s : Int × Int) : PyData := .tuple [t.d, .int s.1, .int s.2, .int (t.parts : Nat), .int (t.deep : Nat)]
def Pl (g : Int) (t : Tm) (s : Int × Int) : Prop := t.nums g ∧ t.sides = some s
def S_leaf (ds : List PyData) (R : PyData → Prop) : Prop := ∃ g : Int, ds = [.int g] ∧ isGr (.int g) = true ∧ ∀ t s, Pl g t s → t.parts = 1 → t.deep = 1 → R (itemD t s)
theorem c__law_leaf (T : Tp w K mg) (C__law_pull : Callee P w K mg base 1 "_law_pull" ["urn", "many"] (spU K S_pull)) (C__law_any : Callee P w K mg base 2 "_law_any" ["urn", "things"] (spU K S_any)) (C__law_drawn : Callee P w K mg base 3 "_law_drawn" ["urn", "ground"] (spU K S_drawn))
    (C__law_sides : Callee P w K mg base 1 "_law_sides" ["word"] (spD K S_sidesW)) : Callee P w K mg base 4 "_law_leaf" ["urn", "ground"] (spU K S_leaf) := by
  obtain ⟨f, fd, F, b, m⟩ := T.d__law_leaf.ex
  refine ⟨f, fd, okU F sc__law_leaf (fun ds R h => by obtain ⟨_, rfl, _⟩ := h; rfl) fun cdv A outer s H E hr => ⟨_, (pss_cons (ps_set (i := 2) sc__law_leaf.nd rfl (.inl rfl) (pe_lst (pa_cons pe_str (pa_cons pe_str (pa_cons pe_str (pa_cons pe_str (pa_cons pe_str (pa_cons pe_str (pa_cons pe_str pa_nil))))))))) (pss_cons (ps_if (pt_cmpR (op_eqD hr.units) (pe_cl C__law_pull (hr.mono (by omega)) (by rfl) (pa_cons (pv 0) (pa_cons pe_int pa_nil))) pe_int (nomark _)) (pss_one (ps_ret (pe_tup (pa_cons (pe_tup (pa_cons pe_str (pa_cons (pe_cl C__law_drawn (hr.mono (by omega)) (by rfl) (pa_cons (pv 0) (pa_cons (pv 1) pa_nil))) pa_nil))) (pa_cons pe_int (pa_cons pe_int (pa_cons pe_int (pa_cons pe_int pa_nil)))))))) pss_nil) (pss_cons (ps_set (i := 3) sc__law_leaf.nd rfl (.inl rfl) (pe_cl C__law_any (hr.mono (by omega)) (by rfl) (pa_cons (pv 0) (pa_cons (pv 2) pa_nil)))) (pss_one (ps_ret (pe_op op_catA (pe_op op_catA (pe_tup (pa_cons (pv 3) pa_nil)) (pe_cl C__law_sides (hr.mono (by omega)) (by rfl) (pa_cons (pv 3) pa_nil))) (pe_tup (pa_cons pe_int (pa_cons pe_int pa_nil))))))))), fun W u ds R hW h => ?_⟩, b, F.kp, m⟩
  obtain ⟨g, rfl, hg, r⟩ := h
  try dsimp only [cxOf]
  refine (show DS K (W.urn K u) _ [.v (.ref u), .d (.int g), .no, .no] _ from ?_)
  repeat walk_at "dd"
  refine ⟨by decide, by decide, fun n n0 n1 => ?_⟩
  repeat walk_at "dd"
  refine ite2 (fun c => ?_) (fun c => ?_)
  · repeat walk_at "dd"
    refine ⟨hg, fun a b hn => ?_⟩
    repeat walk_at "dd"
    exact r (.times a b) (1, 1) ⟨hn, rfl⟩ rfl rfl
  · repeat walk_at "dd"
    refine ⟨by decide, by decide, fun d hd => ?_⟩
    have hd' : ∃ wd : Wd, d = .str wd.s := by
      simp only [List.mem_cons, List.not_mem_nil, or_false] at hd
      rcases hd with rfl | rfl | rfl | rfl | rfl | rfl | rfl
      · exact ⟨.wire, rfl⟩
      · exact ⟨.cross, rfl⟩
      · exact ⟨.copy, rfl⟩
      · exact ⟨.drop, rfl⟩
      · exact ⟨.add, rfl⟩
      · exact ⟨.nought, rfl⟩
      · exact ⟨.later, rfl⟩
    obtain ⟨wd, rfl⟩ := hd'
    repeat walk_at "dd"
    exact r (.word wd) wd.sd ⟨trivial, rfl⟩ rfl rfl
def S_over1 (ds : List PyData) (R : PyData → Prop) : Prop := ∃ (g : Int) (t : Tm) (s : Int × Int), ds = [itemD t s] ∧ Pl g t s ∧ ∀ t' s', Pl g t' s' → R (itemD t' s')
theorem c__law_over_one (T : Tp w K mg) (C__law_pull : Callee P w K mg base 1 "_law_pull" ["urn", "many"] (spU K S_pull)) : Callee P w K mg base 2 "_law_over_one" ["urn", "one"] (spU K S_over1) := by
  obtain ⟨f, fd, F, b, m⟩ := T.d__law_over_one.ex
  refine ⟨f, fd, okU F sc__law_over_one (fun ds R h => by obtain ⟨_, _, _, rfl, _⟩ := h; rfl) fun cdv A outer s H E hr => ⟨_, (pss_cons (ps_asg (pv 1) (pg_tup rfl (pgs_cons (pg_name (i := 2) sc__law_over_one.nd rfl (.inl rfl)) (pgs_cons (pg_name (i := 3) sc__law_over_one.nd rfl (.inl rfl)) (pgs_cons (pg_name (i := 4) sc__law_over_one.nd rfl (.inl rfl)) (pgs_cons (pg_name (i := 5) sc__law_over_one.nd rfl (.inl rfl)) (pgs_cons (pg_name (i := 6) sc__law_over_one.nd rfl (.inl rfl)) pgs_nil))))))) (pss_cons (ps_if (PW.pt (pw_and (pt_cmpR op_gt (pv 3) pe_int (nomark _)) (pw_and (pt_cmpR op_gt (pv 4) pe_int (nomark _)) (pw_and1 (pt_cmpR (op_eqD hr.units) (pe_cl C__law_pull (hr.mono (by omega)) (by rfl) (pa_cons (pv 0) (pa_cons pe_int pa_nil))) pe_int (nomark _)))))) (pss_one (ps_ret (pe_tup (pa_cons (pe_tup (pa_cons pe_str (pa_cons (pv 2) pa_nil))) (pa_cons (pe_op op_sub (pv 3) pe_int) (pa_cons (pe_op op_sub (pv 4) pe_int) (pa_cons (pe_op op_add (pv 5) pe_int) (pa_cons (pe_op op_add (pv 6) pe_int) pa_nil)))))))) pss_nil) (pss_one (ps_ret (pe_tup (pa_cons (pe_tup (pa_cons pe_str (pa_cons (pv 2) pa_nil))) (pa_cons (pv 4) (pa_cons (pv 3) (pa_cons (pe_op op_add (pv 5) pe_int) (pa_cons (pe_op op_add (pv 6) pe_int) pa_nil)))))))))), fun W u ds R hW h => ?_⟩, b, F.kp, m⟩
  obtain ⟨g, t, sd, rfl, hp, r⟩ := h
  try dsimp only [cxOf]
  refine (show DS K (W.urn K u) _ [.v (.ref u), .d (itemD t sd), .no, .no, .no, .no, .no] _ from ?_)
  refine ds_seq (ds_tgt (d := itemD t sd) ?_)
  walk_at "dd"
  refine dg_tup [2, 3, 4, 5, 6] rfl rfl rfl ?_
  refine (show DS K (W.urn K u) _ [.v (.ref u), .d (itemD t sd), .d t.d, .d (.int sd.1), .d (.int sd.2), .d (.int (t.parts : Nat)), .d (.int (t.deep : Nat))] _ from ?_)
  have turn : R (itemD (.turned t) (sd.2, sd.1)) := r (.turned t) (sd.2, sd.1) ⟨hp.1, by show t.sides.map _ = _; rw [hp.2]; rfl⟩
  repeat walk_at "dd"
  refine ite2 (fun c => ?_) (fun c => ?_)
  · repeat walk_at "dd"
    refine ite2 (fun c2 => ?_) (fun c2 => ?_)
    · repeat walk_at "dd"
      refine ⟨by decide, by decide, fun n n0 n1 => ?_⟩
      repeat walk_at "dd"
      refine ite2 (fun c3 => ?_) (fun c3 => ?_)
      · repeat walk_at "dd"
        exact r (.loop t) (sd.1 - 1, sd.2 - 1) ⟨hp.1, by
          show t.sides.bind _ = _
          rw [hp.2]
          exact if_pos ⟨of_decide_eq_true c, of_decide_eq_true c2⟩⟩
      · repeat walk_at "dd"
        exact turn
    · repeat walk_at "dd"
      exact turn
  · repeat walk_at "dd"
    exact turn
def S_over2 (ds : List PyData) (R : PyData → Prop) : Prop := ∃ (g : Int) (t1 : Tm) (s1 : Int × Int) (t2 : Tm) (s2 : Int × Int), ds = [itemD t1 s1, itemD t2 s2] ∧ Pl g t1 s1 ∧ Pl g t2 s2 ∧ ∀ t' s', Pl g t' s' → R (itemD t' s')
theorem c__law_over_two (T : Tp w K mg) (C__law_pull : Callee P w K mg base 1 "_law_pull" ["urn", "many"] (spU K S_pull)) : Callee P w K mg base 2 "_law_over_two" ["urn", "one", "other"] (spU K S_over2) := by
  obtain ⟨f, fd, F, b, m⟩ := T.d__law_over_two.ex
  refine ⟨f, fd, okU F sc__law_over_two (fun ds R h => by obtain ⟨_, _, _, _, _, rfl, _⟩ := h; rfl) fun cdv A outer s H E hr => ⟨_, (pss_cons (ps_par (i := 3) (j := 4) (by rfl) sc__law_over_two.nd rfl rfl (by decide) rfl rfl (pa_cons (pe_op op_add (pe_op op_add (pe_ix ix_tup (pv 1) pe_int (fun _ _ => rfl)) (pe_ix ix_tup (pv 2) pe_int (fun _ _ => rfl))) pe_int) (pa_cons (pe_op op_add (pe_callB (cb_max rfl) (by rfl) T.z_max (by decide +kernel) (pa_cons (pe_ix ix_tup (pv 1) pe_int (fun _ _ => rfl)) (pa_cons (pe_ix ix_tup (pv 2) pe_int (fun _ _ => rfl)) pa_nil))) pe_int) pa_nil)) (by rfl)) (pss_cons (ps_if (PW.pt (pw_and (pt_cmpR (op_eqD hr.units) (pe_ix ix_tup (pv 1) pe_int (fun _ _ => rfl)) (pe_ix ix_tup (pv 2) pe_int (fun _ _ => rfl)) (nomark _)) (pw_and1 (pt_cmpR op_gt (pe_cl C__law_pull (hr.mono (by omega)) (by rfl) (pa_cons (pv 0) (pa_cons pe_int pa_nil))) pe_int (nomark _))))) (pss_one (ps_ret (pe_tup (pa_cons (pe_tup (pa_cons pe_str (pa_cons (pe_ix ix_tup (pv 1) pe_int (fun _ _ => rfl)) (pa_cons (pe_ix ix_tup (pv 2) pe_int (fun _ _ => rfl)) pa_nil)))) (pa_cons (pe_ix ix_tup (pv 1) pe_int (fun _ _ => rfl)) (pa_cons (pe_ix ix_tup (pv 2) pe_int (fun _ _ => rfl)) (pa_cons (pv 3) (pa_cons (pv 4) pa_nil)))))))) pss_nil) (pss_one (ps_ret (pe_tup (pa_cons (pe_tup (pa_cons pe_str (pa_cons (pe_ix ix_tup (pv 1) pe_int (fun _ _ => rfl)) (pa_cons (pe_ix ix_tup (pv 2) pe_int (fun _ _ => rfl)) pa_nil)))) (pa_cons (pe_op op_add (pe_ix ix_tup (pv 1) pe_int (fun _ _ => rfl)) (pe_ix ix_tup (pv 2) pe_int (fun _ _ => rfl))) (pa_cons (pe_op op_add (pe_ix ix_tup (pv 1) pe_int (fun _ _ => rfl)) (pe_ix ix_tup (pv 2) pe_int (fun _ _ => rfl))) (pa_cons (pv 3) (pa_cons (pv 4) pa_nil)))))))))), fun W u ds R hW h => ?_⟩, b, F.kp, m⟩
  obtain ⟨g, t1, s1, t2, s2, rfl, hp1, hp2, r⟩ := h
  try dsimp only [cxOf]
  refine (show DS K (W.urn K u) _ [.v (.ref u), .d (itemD t1 s1), .d (itemD t2 s2), .no, .no] _ from ?_)
  have em : (if (t2.deep : Int) > (t1.deep : Int) then (t2.deep : Int) else (t1.deep : Int)) + 1 = ((max t1.deep t2.deep + 1 : Nat) : Int) := by split <;> omega
  have bes : R (itemD (.bes t1 t2) (s1.1 + s2.1, s1.2 + s2.2)) := r _ _ ⟨⟨hp1.1, hp2.1⟩, by show t1.sides.bind _ = _; rw [hp1.2, Option.bind_some, hp2.2]; rfl⟩
  repeat walk_at "dd"
  rw [em]
  refine ite2 (fun c => ?_) (fun c => ?_)
  · repeat walk_at "dd"
    refine ⟨by decide, by decide, fun n n0 n1 => ?_⟩
    repeat walk_at "dd"
    refine ite2 (fun c3 => ?_) (fun c3 => ?_)
    · repeat walk_at "dd"
      exact r (.thn t1 t2) (s1.1, s2.2) ⟨⟨hp1.1, hp2.1⟩, by
        show t1.sides.bind _ = _
        rw [hp1.2, Option.bind_some, hp2.2]
        exact if_pos (eq_of_beq c)⟩
    · repeat walk_at "dd"
      exact bes
  · repeat walk_at "dd"
    exact bes
/-! the law's own texts -/
theorem c__law_number_text (T : Tp w K mg) : Callee P w K mg base 1 "_law_number_text" ["number"] (spD K S_number_text) := T.d__law_number_text.callee fun f fd F =>
  okD F sc__law_number_text (fun ds R h => by obtain ⟨_, _, rfl, _⟩ := h; rfl) fun cdv A outer s H E hr => ⟨_, (pss_one (ps_ret (pe_ifExp (pt_cmpR (op_eqD hr.units) (pe_ix ix_tup (pv 0) pe_int (fun _ _ => rfl)) pe_int (nomark _)) (pe_callTy cb_str (by rfl) T.z_str (by decide +kernel) (pa_cons (pe_ix ix_tup (pv 0) pe_int (fun _ _ => rfl)) pa_nil)) (pe_op op_addStr (pe_op op_addStr (pe_callTy cb_str (by rfl) T.z_str (by decide +kernel) (pa_cons (pe_ix ix_tup (pv 0) pe_int (fun _ _ => rfl)) pa_nil)) pe_str) (pe_callTy cb_str (by rfl) T.z_str (by decide +kernel) (pa_cons (pe_ix ix_tup (pv 0) pe_int (fun _ _ => rfl)) pa_nil)))))), fun W ds R h => by
    obtain ⟨a, b, rfl, ha, hb, r⟩ := h
    try dsimp only [cxOf]
    refine (show DS K W _ [.d (.tuple [.int a, .int b])] _ from ?_)
    have l1 := Tm.istr_len ha
    have l2 := Tm.istr_len hb
    have l3 : ("/" : Str).length = 1 := by decide
    repeat walk_at "dd"
    refine ite2 (fun c => ?_) (fun c => ?_)
    · repeat walk_at "dd"
      refine ⟨ha, ?_⟩
      exact R_eq r (by rw [show Tm.numT a b = Tm.istr a from if_pos (eq_of_beq c)]; rfl)
    · repeat walk_at "dd"
      refine ⟨ha, ?_⟩
      repeat walk_at "dd"
      refine ⟨line5 ?_, ?_⟩
      · show (Tm.istr a).length + ("/" : Str).length ≤ _
        omega
      repeat walk_at "dd"
      refine ⟨hb, ?_⟩
      repeat walk_at "dd"
      refine ⟨line5 ?_, ?_⟩
      · show (Tm.istr a ++ "/" : Str).length + (Tm.istr b).length ≤ _
        rw [Tm.app_len]
        omega
      exact R_eq r (by rw [show Tm.numT a b = Tm.istr a ++ "/" ++ Tm.istr b from if_neg (fun z => c (by rw [z]; rfl))]; rfl)⟩
theorem c__law_bound (T : Tp w K mg) : Callee P w K mg base 1 "_law_bound" ["term"] (spD K S_bound) := T.d__law_bound.callee fun f fd F =>
  okD F sc__law_bound (fun ds R h => by obtain ⟨_, rfl, _⟩ := h; rfl) fun cdv A outer s H E hr => ⟨_, (pss_cons (ps_if (PW.pt (pw_and (pt_val (pe_callB call_isi (by rfl) T.z_isinstance (by decide +kernel) (pa_cons (pv 0) (pa_cons (pe_bltn (v := .ty "tuple") (by rfl) T.z_tuple (by decide +kernel) rfl) pa_nil)))) (pw_and1 (pt_cmpR op_in_seq (pe_ix ix_tup (pv 0) pe_int (fun _ _ => rfl)) (pe_tup (pa_cons pe_str (pa_cons pe_str pa_nil))) (by rfl))))) (pss_one (ps_ret (pe_callTy cb_intB (by rfl) T.z_int (by decide +kernel) (pa_cons (pe_cmpR op_eq (pe_ix ix_tup (pv 0) pe_int (fun _ _ => rfl)) pe_str (nomark _)) pa_nil)))) pss_nil) (pss_one (ps_ret pe_int))), fun W ds R h => by
    obtain ⟨t, rfl, r⟩ := h
    try dsimp only [cxOf]
    refine (show DS K W _ [.d t.d] _ from ?_)
    cases t with
    | thn t u =>
      repeat walk_at "dd"
      exact r
    | bes t u =>
      repeat walk_at "dd"
      exact r
    | _ => (repeat walk_at "dd") <;> exact r⟩
end
end K86
set_option Elab.async false
set_option linter.all false
set_option maxRecDepth 100000
set_option maxHeartbeats 1000000
namespace K86
open PySem PyProof.Rows L2 DL KT
local macro_rules | `(tactic| walk_at "dd") => `(tactic| first
  | with_reducible refine dsf_nil ?_ | with_reducible refine dsf_seq ?_ | with_reducible refine dsf_if ?_ | with_reducible refine dsf_lift (ds_set ?_) | with_reducible refine dsf_lift (ds_ret ?_) | with_reducible refine dsf_lift (ds_par ?_)
  | with_reducible refine ds_nil ?_ | with_reducible refine ds_seq ?_ | with_reducible refine ds_ret ?_ | with_reducible refine ds_retN ?_ | with_reducible refine ds_set ?_ | with_reducible refine ds_if ?_ | with_reducible refine ds_drop ?_ | with_reducible refine ds_par ?_
  | ((with_reducible refine' de_var ?h ?_); (case h => rfl)) | ((with_reducible refine' de_c ?h ?_); (case h => rfl))
  | with_reducible refine de_I0 ?_ | with_reducible refine de_B0 ?_ | with_reducible refine de_I ?_ | with_reducible refine de_addStr ?_ | with_reducible refine de_eqS ?_ | with_reducible refine de_neS ?_ | with_reducible refine de_eqD ?_ | with_reducible refine de_neD ?_ | with_reducible refine de_isNo ?_ | with_reducible refine de_isNot ?_
  | with_reducible refine de_ixT ?_ | with_reducible refine de_ixL ?_ | with_reducible refine de_neg ?_ | with_reducible refine de_catT ?_ | with_reducible refine de_tail ?_ | with_reducible refine de_in ?_ | with_reducible refine de_inTab ?_ | with_reducible refine de_ixTab ?_ | with_reducible refine de_tabGet ?_ | with_reducible refine de_inD ?_
  | with_reducible refine de_abs ?_ | with_reducible refine de_int ?_ | with_reducible refine de_intBB ?_ | with_reducible refine de_str ?_ | with_reducible refine de_max ?_ | with_reducible refine de_min ?_ | with_reducible refine de_len ?_ | with_reducible refine de_lenS ?_ | with_reducible refine de_list ?_ | with_reducible refine de_tuple ?_
  | with_reducible refine de_isTup ?_ | with_reducible refine de_isLst ?_ | with_reducible refine de_isStr ?_ | with_reducible refine de_isBool ?_ | with_reducible refine de_isInt ?_
  | with_reducible refine de_tup ?_ | with_reducible refine de_lst ?_ | with_reducible refine de_call ?_ | ((with_reducible refine' de_callU ?h ?_); (case h => assumption))
  | with_reducible refine da_nil ?_ | ((with_reducible refine' da_consV ?h ?_); (case h => rfl)) | with_reducible refine da_cons ?_
  | with_reducible refine dt_test ?_ | with_reducible refine dt_B ?_ | with_reducible refine dt_not ?_ | with_reducible refine dt_and ?_ | with_reducible refine dt_or ?_
  | with_reducible refine de_andV ?_ | with_reducible refine de_orV ?_ | with_reducible refine de_notV ?_ | with_reducible refine de_if ?_
  | with_reducible refine de_chain od_B0 od_B0 ?_ | with_reducible refine dt_yes ?_
  | ((with_reducible refine' iteB ?h ?_); (case h => rfl)) | ((with_reducible refine' iteN ?h ?_); (case h => rfl))
  | refine ⟨_, _, _, rfl, rfl, rfl, ?_⟩ | refine ⟨_, _, rfl, rfl, True.intro, ?_⟩ | refine ⟨Nat.le_of_ble_eq_true rfl, ?_⟩ | refine ⟨_, .inl rfl, rfl, rfl, ?_⟩ | refine ⟨_, .inl rfl, ?_⟩ | refine ⟨_, .inr rfl, ?_⟩ | refine ⟨_, rfl, ?_⟩ | refine ⟨rfl, rfl, ?_⟩ | refine ⟨_, _, rfl, rfl, ?_⟩ | refine ⟨_, _, rfl, ?_⟩ | refine ⟨_, _, _, rfl, ?_⟩ | refine ⟨rfl, ?_⟩)

section
variable {P : Program} {w : World} {K : PySem.W.Frag} {mg : Str → Option Value} {base : Heap}
theorem c__law_in (T : Tp w K mg) {n k : Nat} (hk : 1 ≤ k) (C__law_bound : Callee P w K mg base 1 "_law_bound" ["term"] (spD K S_bound)) (C__law_text : Callee P w K mg base k "_law_text" ["term"] (spD K (S_text n))) :
    Callee P w K mg base (k + 1) "_law_in" ["term", "least"] (spD K (S_within n)) := T.d__law_in.callee fun f fd F =>
  okD F sc__law_in (fun ds R h => by obtain ⟨_, _, _, rfl, _⟩ := h; rfl) fun cdv A outer s H E hr => ⟨_, (pss_cons (ps_set (i := 2) sc__law_in.nd rfl (.inl rfl) (pe_cl C__law_text (hr.mono (by omega)) (by rfl) (pa_cons (pv 0) pa_nil))) (pss_one (ps_ret (pe_ifExp (pt_cmpR op_ge (pe_cl C__law_bound (hr.mono (by omega)) (by rfl) (pa_cons (pv 0) pa_nil)) (pv 1) (nomark _)) (pv 2) (pe_op op_addStr (pe_op op_addStr pe_str (pv 2)) pe_str))))), fun W ds R h => by
    obtain ⟨t, g, l, rfl, hn, hp, hd, r⟩ := h
    try dsimp only [cxOf]
    refine (show DS K W _ [.d t.d, .d (.int (l : Nat)), .no] _ from ?_)
    have tl := Tm.text_len t hn
    repeat walk_at "dd"
    refine ⟨t, g, rfl, hn, hp, hd, ?_⟩
    repeat walk_at "dd"
    refine ite2 (fun c => ?_) (fun c => ?_)
    · have c' : l ≤ t.bound := by have := of_decide_eq_true c; omega
      repeat walk_at "dd"
      exact R_eq r (by rw [show Tm.within t.text t.bound l = t.text from if_pos c'])
    · have c' : ¬ l ≤ t.bound := fun z => c (decide_eq_true (by omega))
      have e1 : ("(" : Str).length = 1 := by decide
      have e2 : (")" : Str).length = 1 := by decide
      repeat walk_at "dd"
      refine ⟨line5 (by omega), ?_⟩
      repeat walk_at "dd"
      refine ⟨line5 (by rw [Tm.app_len]; omega), ?_⟩
      exact R_eq r (by rw [show Tm.within t.text t.bound l = Tm.par t.text from if_neg c']; rfl)⟩
theorem c__law_text_step (T : Tp w K mg) {n k : Nat} (hk : 1 ≤ k) (C__law_number_text : Callee P w K mg base 1 "_law_number_text" ["number"] (spD K S_number_text)) (C__law_text : Callee P w K mg base (k + 1) "_law_text" ["term"] (spD K (S_text n)))
    (C__law_in : Callee P w K mg base (k + 1) "_law_in" ["term", "least"] (spD K (S_within n))) : Callee P w K mg base (k + 2) "_law_text" ["term"] (spD K (S_text (n + 1))) := T.d__law_text.callee fun f fd F =>
  okD F sc__law_text (fun ds R h => by obtain ⟨_, _, rfl, _⟩ := h; rfl) fun cdv A outer s H E hr => ⟨_, (pss_cons (ps_if (pt_val (pe_callB call_isi (by rfl) T.z_isinstance (by decide +kernel) (pa_cons (pv 0) (pa_cons (pe_bltn (v := .ty "str") (by rfl) T.z_str (by decide +kernel) rfl) pa_nil)))) (pss_one (ps_ret (pv 0))) pss_nil) (pss_cons (ps_if (pt_cmpR op_eq (pe_ix ix_tup (pv 0) pe_int (fun _ _ => rfl)) pe_str (nomark _)) (pss_one (ps_ret (pe_op op_addStr pe_str (pe_cl C__law_number_text (hr.mono (by omega)) (by rfl) (pa_cons (pe_ix ix_tup (pv 0) pe_int (fun _ _ => rfl)) pa_nil))))) pss_nil) (pss_cons (ps_if (pt_cmpR op_eq (pe_ix ix_tup (pv 0) pe_int (fun _ _ => rfl)) pe_str (nomark _)) (pss_one (ps_ret (pe_op op_addStr (pe_cl C__law_in (hr.mono (by omega)) (by rfl) (pa_cons (pe_ix ix_tup (pv 0) pe_int (fun _ _ => rfl)) (pa_cons pe_int pa_nil))) pe_str))) pss_nil) (pss_cons (ps_if (pt_cmpR op_eq (pe_ix ix_tup (pv 0) pe_int (fun _ _ => rfl)) pe_str (nomark _)) (pss_one (ps_ret (pe_op op_addStr (pe_op op_addStr pe_str (pe_cl C__law_text (hr.mono (by omega)) (by rfl) (pa_cons (pe_ix ix_tup (pv 0) pe_int (fun _ _ => rfl)) pa_nil))) pe_str))) pss_nil) (pss_cons (ps_if (pt_cmpR op_eq (pe_ix ix_tup (pv 0) pe_int (fun _ _ => rfl)) pe_str (nomark _)) (pss_one (ps_ret (pe_op op_addStr (pe_op op_addStr (pe_cl C__law_in (hr.mono (by omega)) (by rfl) (pa_cons (pe_ix ix_tup (pv 0) pe_int (fun _ _ => rfl)) (pa_cons pe_int pa_nil))) pe_str) (pe_cl C__law_in (hr.mono (by omega)) (by rfl) (pa_cons (pe_ix ix_tup (pv 0) pe_int (fun _ _ => rfl)) (pa_cons pe_int pa_nil)))))) pss_nil) (pss_one (ps_ret (pe_op op_addStr (pe_op op_addStr (pe_cl C__law_text (hr.mono (by omega)) (by rfl) (pa_cons (pe_ix ix_tup (pv 0) pe_int (fun _ _ => rfl)) pa_nil)) pe_str) (pe_cl C__law_in (hr.mono (by omega)) (by rfl) (pa_cons (pe_ix ix_tup (pv 0) pe_int (fun _ _ => rfl)) (pa_cons pe_int pa_nil))))))))))), fun W ds R h => by
    obtain ⟨t, g, rfl, hn, hp, hd, r⟩ := h
    try dsimp only [cxOf]
    refine (show DS K W _ [.d t.d] _ from ?_)
    cases t with
    | word wd =>
      repeat walk_at "dd"
      exact r
    | times a b =>
      obtain ⟨hn1, hn2, hn3⟩ := hn
      have e1 : ("times " : Str).length = 6 := by decide
      have e3 := Tm.numT_len hn2 hn3
      repeat walk_at "dd"
      refine ⟨hn2, hn3, ?_⟩
      repeat walk_at "dd"
      refine ⟨line5 (by omega), ?_⟩
      exact R_eq r (congrArg (fun z : Str => PyData.str (z ++ Tm.numT a b)) (show ("times" ++ " " : Str) = "times " by decide))
    | turned t =>
      have hdt : t.deep ≤ n := Nat.le_of_succ_le_succ hd
      have hpt : t.parts + 1 ≤ 80 := hp
      have tt := Tm.text_len t hn
      have tw := Tm.within_len t.text t.bound 2
      have e1 : ("'" : Str).length = 1 := by decide
      repeat walk_at "dd"
      refine ⟨t, g, 2, rfl, hn, by omega, hdt, ?_⟩
      repeat walk_at "dd"
      refine ⟨line5 (by omega), ?_⟩
      exact r
    | loop t =>
      have hdt : t.deep ≤ n := Nat.le_of_succ_le_succ hd
      have hpt : t.parts + 1 ≤ 80 := hp
      have tt := Tm.text_len t hn
      have e1 : ("loop(" : Str).length = 5 := by decide
      have e3 : (")" : Str).length = 1 := by decide
      repeat walk_at "dd"
      refine ⟨t, g, rfl, hn, by omega, hdt, ?_⟩
      repeat walk_at "dd"
      refine ⟨line5 (by omega), ?_⟩
      repeat walk_at "dd"
      refine ⟨line5 (by rw [Tm.app_len]; omega), ?_⟩
      exact R_eq r (congrArg (fun z : Str => PyData.str (z ++ t.text ++ ")")) (show ("loop" ++ "(" : Str) = "loop(" by decide))
    | thn t u =>
      have hd' : max t.deep u.deep ≤ n := Nat.le_of_succ_le_succ hd
      have hdt : t.deep ≤ n := Nat.le_trans (Nat.le_max_left _ _) hd'
      have hdu : u.deep ≤ n := Nat.le_trans (Nat.le_max_right _ _) hd'
      have hpt : t.parts + u.parts + 1 ≤ 80 := hp
      have t1 := Tm.text_len t hn.1
      have t2 := Tm.text_len u hn.2
      have w2 := Tm.within_len u.text u.bound 1
      have e1 : (" ; " : Str).length = 3 := by decide
      repeat walk_at "dd"
      refine ⟨t, g, rfl, hn.1, by omega, hdt, ?_⟩
      repeat walk_at "dd"
      refine ⟨line5 (by omega), ?_⟩
      repeat walk_at "dd"
      refine ⟨u, g, 1, rfl, hn.2, by omega, hdu, ?_⟩
      repeat walk_at "dd"
      refine ⟨line5 (by rw [Tm.app_len]; omega), ?_⟩
      exact r
    | bes t u =>
      have hd' : max t.deep u.deep ≤ n := Nat.le_of_succ_le_succ hd
      have hdt : t.deep ≤ n := Nat.le_trans (Nat.le_max_left _ _) hd'
      have hdu : u.deep ≤ n := Nat.le_trans (Nat.le_max_right _ _) hd'
      have hpt : t.parts + u.parts + 1 ≤ 80 := hp
      have t1 := Tm.text_len t hn.1
      have t2 := Tm.text_len u hn.2
      have w1 := Tm.within_len t.text t.bound 1
      have w2 := Tm.within_len u.text u.bound 2
      have e1 : (", " : Str).length = 2 := by decide
      repeat walk_at "dd"
      refine ⟨t, g, 1, rfl, hn.1, by omega, hdt, ?_⟩
      repeat walk_at "dd"
      refine ⟨line5 (by omega), ?_⟩
      repeat walk_at "dd"
      refine ⟨u, g, 2, rfl, hn.2, by omega, hdu, ?_⟩
      repeat walk_at "dd"
      refine ⟨line5 (by rw [Tm.app_len]; omega), ?_⟩
      exact r⟩
theorem c__law_text (T : Tp w K mg) (C__law_number_text : Callee P w K mg base 1 "_law_number_text" ["number"] (spD K S_number_text)) (C__law_bound : Callee P w K mg base 1 "_law_bound" ["term"] (spD K S_bound)) : ∀ n : Nat, Callee P w K mg base (2 * n + 1) "_law_text" ["term"] (spD K (S_text n))
  | 0 => none_callee T.d__law_text text_zero
  | n + 1 =>
    have h := c__law_text T C__law_number_text C__law_bound n
    c__law_text_step (k := 2 * n + 1) T (by omega) C__law_number_text (h.mono (by omega)) (c__law_in T (by omega) C__law_bound h)
end
end K86
set_option Elab.async false
set_option linter.all false
set_option maxRecDepth 100000
set_option maxHeartbeats 1000000
namespace K86
open PySem PyProof.Rows L2 DL KT
local macro_rules | `(tactic| walk_at "dd") => `(tactic| first
  | with_reducible refine dsf_nil ?_ | with_reducible refine dsf_seq ?_ | with_reducible refine dsf_if ?_ | with_reducible refine dsf_lift (ds_set ?_) | with_reducible refine dsf_lift (ds_ret ?_) | with_reducible refine dsf_lift (ds_par ?_)
  | with_reducible refine ds_nil ?_ | with_reducible refine ds_seq ?_ | with_reducible refine ds_ret ?_ | with_reducible refine ds_retN ?_ | with_reducible refine ds_set ?_ | with_reducible refine ds_if ?_ | with_reducible refine ds_drop ?_ | with_reducible refine ds_par ?_
  | ((with_reducible refine' de_var ?h ?_); (case h => rfl)) | ((with_reducible refine' de_c ?h ?_); (case h => rfl))
  | with_reducible refine de_I0 ?_ | with_reducible refine de_B0 ?_ | with_reducible refine de_I ?_ | with_reducible refine de_addStr ?_ | with_reducible refine de_eqS ?_ | with_reducible refine de_neS ?_ | with_reducible refine de_eqD ?_ | with_reducible refine de_neD ?_ | with_reducible refine de_isNo ?_ | with_reducible refine de_isNot ?_
  | with_reducible refine de_ixT ?_ | with_reducible refine de_ixL ?_ | with_reducible refine de_neg ?_ | with_reducible refine de_catT ?_ | with_reducible refine de_tail ?_ | with_reducible refine de_in ?_ | with_reducible refine de_inTab ?_ | with_reducible refine de_ixTab ?_ | with_reducible refine de_tabGet ?_ | with_reducible refine de_inD ?_
  | with_reducible refine de_abs ?_ | with_reducible refine de_int ?_ | with_reducible refine de_intBB ?_ | with_reducible refine de_str ?_ | with_reducible refine de_max ?_ | with_reducible refine de_min ?_ | with_reducible refine de_len ?_ | with_reducible refine de_lenS ?_ | with_reducible refine de_list ?_ | with_reducible refine de_tuple ?_
  | with_reducible refine de_isTup ?_ | with_reducible refine de_isLst ?_ | with_reducible refine de_isStr ?_ | with_reducible refine de_isBool ?_ | with_reducible refine de_isInt ?_
  | with_reducible refine de_tup ?_ | with_reducible refine de_lst ?_ | with_reducible refine de_call ?_ | ((with_reducible refine' de_callU ?h ?_); (case h => assumption))
  | with_reducible refine da_nil ?_ | ((with_reducible refine' da_consV ?h ?_); (case h => rfl)) | with_reducible refine da_cons ?_
  | with_reducible refine dt_test ?_ | with_reducible refine dt_B ?_ | with_reducible refine dt_not ?_ | with_reducible refine dt_and ?_ | with_reducible refine dt_or ?_
  | with_reducible refine de_andV ?_ | with_reducible refine de_orV ?_ | with_reducible refine de_notV ?_ | with_reducible refine de_if ?_
  | with_reducible refine de_chain od_B0 od_B0 ?_ | with_reducible refine dt_yes ?_
  | ((with_reducible refine' iteB ?h ?_); (case h => rfl)) | ((with_reducible refine' iteN ?h ?_); (case h => rfl))
  | refine ⟨_, _, _, rfl, rfl, rfl, ?_⟩ | refine ⟨_, _, rfl, rfl, True.intro, ?_⟩ | refine ⟨Nat.le_of_ble_eq_true rfl, ?_⟩ | refine ⟨_, .inl rfl, rfl, rfl, ?_⟩ | refine ⟨_, .inl rfl, ?_⟩ | refine ⟨_, .inr rfl, ?_⟩ | refine ⟨_, rfl, ?_⟩ | refine ⟨rfl, rfl, ?_⟩ | refine ⟨_, _, rfl, rfl, ?_⟩ | refine ⟨_, _, rfl, ?_⟩ | refine ⟨_, _, _, rfl, ?_⟩ | refine ⟨rfl, ?_⟩)

section
variable {P : Program} {w : World} {K : PySem.W.Frag} {mg : Str → Option Value} {base : Heap}
theorem de_callAnyP {W : Own} {u D : Addr} {ds : List PyData} {Γ : List DL.Slot} {R : PyData → Prop} {i j : Nat} {E : XK} (e1 : Γ[i]? = some (.v (.ref u))) (e2 : Γ[j]? = some (.v (.ref D))) (hW : ¬ W.us u) (hD : ¬ (W.urn K u).us D) (h1 : ds ≠ []) (h2 : ds.length < 1000000) (h3 : ∀ d ∈ ds, R d) :
    DE K ((W.pool K D ds).urn K u) (tCall (spAnyP K) [] E (tCons (tVar i) (tCons (tVar j) tNil))) Γ R := fun G H σ Q w n k =>
  ⟨.ref u, n.getV e1, .ref D, n.getV e2, u, D, W, G, ds, R, rfl, hW, hD, w, h1, h2, h3, fun v d G' H' s w' hd r => k v d G' H' s w' hd r⟩
/-! great terms -/
def Like (t t' : Tm) : Prop := t'.nums 0 ∧ t'.parts = t.parts ∧ t'.deep = t.deep ∧ t'.sides = t.sides
def S_great (n : Nat) (ds : List PyData) (R : PyData → Prop) : Prop := ∃ t : Tm, ds = [t.d] ∧ t.nums 0 ∧ t.deep ≤ n ∧ ∀ t', Like t t' → R t'.d
theorem none_calleeU {x : Str} {st : Stmt} {ps : List Str} {S : List PyData → (PyData → Prop) → Prop} {k : Nat} (D : Df K mg x st ps) (h : ∀ ds R, ¬ S ds R) : Callee P w K mg base k x ps (spU K S) := by
  obtain ⟨f, fd, F, b, m⟩ := D.ex
  have no : ∀ vs H Q E, ¬ spU K S vs H Q E := fun vs H Q E z => by
    obtain ⟨_, _, _, _, ds, R, _, _, _, _, s, _⟩ := z
    exact h ds R s
  exact ⟨f, fd, ⟨fun vs H Q E z => absurd z (no vs H Q E), fun A outer s H args us vs Q E _ _ _ _ z => absurd z (no vs H Q E)⟩, b, F.kp, m⟩
theorem c__law_great_step (T : Tp w K mg) {n k : Nat} (hk : 2 ≤ k) (C__law_any : Callee P w K mg base 2 "_law_any" ["urn", "things"] (spU K S_any)) (C__law_number : Callee P w K mg base 2 "_law_number" ["ground", "top", "bottom"] (spD K S_num0))
    (C__law_great : Callee P w K mg base k "_law_great" ["urn", "term"] (spU K (S_great n))) : Callee P w K mg base (k + 1) "_law_great" ["urn", "term"] (spU K (S_great (n + 1))) := by
  obtain ⟨f, fd, F, b, m⟩ := T.d__law_great.ex
  refine ⟨f, fd, okU F sc__law_great (fun ds R h => by obtain ⟨_, rfl, _⟩ := h; rfl) fun cdv A outer s H E hr => ⟨_, (pss_cons (ps_if (pt_val (pe_callB call_isi (by rfl) T.z_isinstance (by decide +kernel) (pa_cons (pv 1) (pa_cons (pe_bltn (v := .ty "str") (by rfl) T.z_str (by decide +kernel) rfl) pa_nil)))) (pss_one (ps_ret (pv 1))) pss_nil) (pss_cons (ps_if (pt_cmpR op_eq (pe_ix ix_tup (pv 1) pe_int (fun _ _ => rfl)) pe_str (nomark _)) (pss_cons (ps_set (i := 2) sc__law_great.nd rfl (.inl rfl) (pe_lst (pa_cons (pe_tup (pa_cons (pe_op op_sub (pe_op op_pow pe_int pe_int) pe_int) (pa_cons pe_int pa_nil))) (pa_cons (pe_tup (pa_cons (pe_op op_sub pe_int (pe_op op_pow pe_int pe_int)) (pa_cons pe_int pa_nil))) (pa_cons (pe_tup (pa_cons (pe_un un_neg pe_int) (pa_cons (pe_op op_sub (pe_op op_pow pe_int pe_int) pe_int) pa_nil))) (pa_cons (pe_tup (pa_cons (pe_op op_pow pe_int pe_int) (pa_cons (pe_op op_sub (pe_op op_pow pe_int pe_int) pe_int) pa_nil))) (pa_cons (pe_ix ix_tup (pv 1) pe_int (fun _ _ => rfl)) pa_nil))))))) (pss_cons (ps_set (i := 3) sc__law_great.nd rfl (.inl rfl) (pe_cl C__law_any (hr.mono (by omega)) (by rfl) (pa_cons (pv 0) (pa_cons (pv 2) pa_nil)))) (pss_one (ps_ret (pe_tup (pa_cons pe_str (pa_cons (pe_cl C__law_number (hr.mono (by omega)) (by rfl) (pa_cons pe_int (pa_cons (pe_ix ix_tup (pv 3) pe_int (fun _ _ => rfl)) (pa_cons (pe_ix ix_tup (pv 3) pe_int (fun _ _ => rfl)) pa_nil)))) pa_nil))))))) pss_nil) (pss_one (ps_ret (pe_op op_catA (pe_tup (pa_cons (pe_ix ix_tup (pv 1) pe_int (fun _ _ => rfl)) pa_nil)) (pe_callTy cb_tuple (by rfl) T.z_tuple (by decide +kernel) (pa_cons (pe_lc (own := [("inner", 4)]) (g := (gName 4)) (tt := tYes) rfl sc__law_great.nd (pi_tup (pe_slice sl_tup (pv 1) (po_some pe_int) po_none)) (blkOk_by (N := N__law_great) (sc := defScope s__law_great) (by decide +kernel)) (fun _ _ _ _ _ => (pg_name (i := 4) sc__law_great.nd rfl (.inl rfl))) (fun _ _ _ _ _ => pts_nil) (fun _ _ _ _ _ => (pe_cl C__law_great (hr.mono (by omega)) (by rfl) (pa_cons (pv 0) (pa_cons (pv 4) pa_nil))))) pa_nil))))))), fun W u ds R hW h => ?_⟩, b, F.kp, m⟩
  obtain ⟨t, rfl, hn, hd, r⟩ := h
  try dsimp only [cxOf]
  refine (show DS K (W.urn K u) _ [.v (.ref u), .d t.d, .no, .no, .no] _ from ?_)
  cases t with
  | word wd =>
    repeat walk_at "dd"
    exact r (.word wd) ⟨hn, rfl, rfl, rfl⟩
  | times a b =>
    obtain ⟨hn1, hn2, hn3⟩ := hn
    rw [if_neg (by decide)] at hn1
    repeat walk_at "dd"
    refine ⟨⟨by decide, by decide, by decide⟩, ?_⟩
    repeat walk_at "dd"
    refine ⟨⟨by decide, by decide, by decide⟩, ?_⟩
    repeat walk_at "dd"
    refine ⟨⟨by decide, by decide, by decide⟩, ?_⟩
    repeat walk_at "dd"
    refine ⟨⟨by decide, by decide, by decide⟩, ?_⟩
    repeat walk_at "dd"
    refine ⟨⟨by decide, by decide, by decide⟩, ?_⟩
    repeat walk_at "dd"
    refine ⟨List.cons_ne_nil _ _, (by show 5 < 1000000; decide), fun d hd => ?_⟩
    have hd' : ∃ x y : Int, d = .tuple [.int x, .int y] ∧ 0 < y ∧ x.natAbs.log2 < 1920 ∧ y.natAbs.log2 < 1920 := by
      simp only [List.mem_cons, List.not_mem_nil, or_false] at hd
      rcases hd with rfl | rfl | rfl | rfl | rfl
      · exact ⟨_, _, rfl, by decide, by decide, by decide⟩
      · exact ⟨_, _, rfl, by decide, by decide, by decide⟩
      · exact ⟨_, _, rfl, by decide, by decide, by decide⟩
      · exact ⟨_, _, rfl, by decide, by decide, by decide⟩
      · exact ⟨_, _, rfl, hn1.1, hn2, hn3⟩
    obtain ⟨x, y, rfl, y0, hx, hy⟩ := hd'
    repeat walk_at "dd"
    refine ⟨y0, hx, hy, fun a' b' h' => ?_⟩
    repeat walk_at "dd"
    exact r (.times a' b') ⟨h', rfl, rfl, rfl⟩
  | turned t =>
    have hdt : t.deep ≤ n := Nat.le_of_succ_le_succ hd
    repeat walk_at "dd"
    refine de_lcT (sh_urn hW) ?_
    repeat walk_at "dd"
    refine ⟨fun i y => ∃ t', Like t t' ∧ y = t'.d, fun _ => False, fun i x hx => ?_, fun ys hy => ?_⟩
    · have ex : x = t.d := by
        rcases i with _ | i
        · exact (Option.some.inj hx).symm
        · simp at hx
      subst ex
      refine ⟨_, cg_name (by decide), fun W' hsh => ?_⟩
      obtain ⟨W0, hW0, rfl⟩ := hsh
      repeat walk_at "dd"
      exact ⟨hn, hdt, fun t' h => ⟨t', h, rfl⟩⟩
    · obtain ⟨y, rfl, t', hl, rfl⟩ := hy.one
      repeat walk_at "dd"
      exact r (.turned t') ⟨hl.1, congrArg (· + 1) hl.2.1, congrArg (· + 1) hl.2.2.1, by show t'.sides.map _ = t.sides.map _; rw [hl.2.2.2]⟩
  | loop t =>
    have hdt : t.deep ≤ n := Nat.le_of_succ_le_succ hd
    repeat walk_at "dd"
    refine de_lcT (sh_urn hW) ?_
    repeat walk_at "dd"
    refine ⟨fun i y => ∃ t', Like t t' ∧ y = t'.d, fun _ => False, fun i x hx => ?_, fun ys hy => ?_⟩
    · have ex : x = t.d := by
        rcases i with _ | i
        · exact (Option.some.inj hx).symm
        · simp at hx
      subst ex
      refine ⟨_, cg_name (by decide), fun W' hsh => ?_⟩
      obtain ⟨W0, hW0, rfl⟩ := hsh
      repeat walk_at "dd"
      exact ⟨hn, hdt, fun t' h => ⟨t', h, rfl⟩⟩
    · obtain ⟨y, rfl, t', hl, rfl⟩ := hy.one
      repeat walk_at "dd"
      exact r (.loop t') ⟨hl.1, congrArg (· + 1) hl.2.1, congrArg (· + 1) hl.2.2.1, by show t'.sides.bind _ = t.sides.bind _; rw [hl.2.2.2]⟩
  | thn t v =>
    have hd' : max t.deep v.deep ≤ n := Nat.le_of_succ_le_succ hd
    have hdt : t.deep ≤ n := Nat.le_trans (Nat.le_max_left _ _) hd'
    have hdv : v.deep ≤ n := Nat.le_trans (Nat.le_max_right _ _) hd'
    repeat walk_at "dd"
    refine de_lcT (sh_urn hW) ?_
    repeat walk_at "dd"
    refine ⟨fun i y => (i = 0 → ∃ t', Like t t' ∧ y = t'.d) ∧ (i = 1 → ∃ t', Like v t' ∧ y = t'.d), fun _ => False, fun i x hx => ?_, fun ys hy => ?_⟩
    · rcases i with _ | _ | i
      · have ex : x = t.d := (Option.some.inj hx).symm
        subst ex
        refine ⟨_, cg_name (by decide), fun W' hsh => ?_⟩
        obtain ⟨W0, hW0, rfl⟩ := hsh
        repeat walk_at "dd"
        exact ⟨hn.1, hdt, fun t' h => ⟨fun _ => ⟨t', h, rfl⟩, fun z => absurd z (by decide)⟩⟩
      · have ex : x = v.d := (Option.some.inj hx).symm
        subst ex
        refine ⟨_, cg_name (by decide), fun W' hsh => ?_⟩
        obtain ⟨W0, hW0, rfl⟩ := hsh
        repeat walk_at "dd"
        exact ⟨hn.2, hdv, fun t' h => ⟨fun z => absurd z (by decide), fun _ => ⟨t', h, rfl⟩⟩⟩
      · simp at hx
    · obtain ⟨y, z, rfl, ⟨h0, _⟩, ⟨_, h1⟩⟩ := hy.two
      obtain ⟨t', hl, rfl⟩ := h0 rfl
      obtain ⟨v', hl2, rfl⟩ := h1 rfl
      repeat walk_at "dd"
      exact r (.thn t' v') ⟨⟨hl.1, hl2.1⟩, by show t'.parts + v'.parts + 1 = t.parts + v.parts + 1; rw [hl.2.1, hl2.2.1], by show max t'.deep v'.deep + 1 = max t.deep v.deep + 1; rw [hl.2.2.1, hl2.2.2.1], by show t'.sides.bind _ = t.sides.bind _; rw [hl.2.2.2, hl2.2.2.2]⟩
  | bes t v =>
    have hd' : max t.deep v.deep ≤ n := Nat.le_of_succ_le_succ hd
    have hdt : t.deep ≤ n := Nat.le_trans (Nat.le_max_left _ _) hd'
    have hdv : v.deep ≤ n := Nat.le_trans (Nat.le_max_right _ _) hd'
    repeat walk_at "dd"
    refine de_lcT (sh_urn hW) ?_
    repeat walk_at "dd"
    refine ⟨fun i y => (i = 0 → ∃ t', Like t t' ∧ y = t'.d) ∧ (i = 1 → ∃ t', Like v t' ∧ y = t'.d), fun _ => False, fun i x hx => ?_, fun ys hy => ?_⟩
    · rcases i with _ | _ | i
      · have ex : x = t.d := (Option.some.inj hx).symm
        subst ex
        refine ⟨_, cg_name (by decide), fun W' hsh => ?_⟩
        obtain ⟨W0, hW0, rfl⟩ := hsh
        repeat walk_at "dd"
        exact ⟨hn.1, hdt, fun t' h => ⟨fun _ => ⟨t', h, rfl⟩, fun z => absurd z (by decide)⟩⟩
      · have ex : x = v.d := (Option.some.inj hx).symm
        subst ex
        refine ⟨_, cg_name (by decide), fun W' hsh => ?_⟩
        obtain ⟨W0, hW0, rfl⟩ := hsh
        repeat walk_at "dd"
        exact ⟨hn.2, hdv, fun t' h => ⟨fun z => absurd z (by decide), fun _ => ⟨t', h, rfl⟩⟩⟩
      · simp at hx
    · obtain ⟨y, z, rfl, ⟨h0, _⟩, ⟨_, h1⟩⟩ := hy.two
      obtain ⟨t', hl, rfl⟩ := h0 rfl
      obtain ⟨v', hl2, rfl⟩ := h1 rfl
      repeat walk_at "dd"
      exact r (.bes t' v') ⟨⟨hl.1, hl2.1⟩, by show t'.parts + v'.parts + 1 = t.parts + v.parts + 1; rw [hl.2.1, hl2.2.1], by show max t'.deep v'.deep + 1 = max t.deep v.deep + 1; rw [hl.2.2.1, hl2.2.2.1], by show t'.sides.bind _ = t.sides.bind _; rw [hl.2.2.2, hl2.2.2.2]⟩
theorem c__law_great (T : Tp w K mg) (C__law_any : Callee P w K mg base 2 "_law_any" ["urn", "things"] (spU K S_any)) (C__law_number : Callee P w K mg base 2 "_law_number" ["ground", "top", "bottom"] (spD K S_num0)) : ∀ n : Nat, Callee P w K mg base (n + 2) "_law_great" ["urn", "term"] (spU K (S_great n))
  | 0 => none_calleeU T.d__law_great fun ds R ⟨t, _, _, h, _⟩ => by
    have := t.deep_pos
    omega
  | n + 1 => c__law_great_step (k := n + 2) T (by omega) C__law_any C__law_number (c__law_great T C__law_any C__law_number n)
/-! the drawn term -/
def POk (g : Int) (p : Tm × (Int × Int)) : Prop := Pl g p.1 p.2 ∧ p.1.parts ≤ 80 ∧ p.1.deep ≤ 30
def itemP (p : Tm × (Int × Int)) : PyData := itemD p.1 p.2
def S_term (ds : List PyData) (R : PyData → Prop) : Prop := ∃ g m : Int, ds = [.int g, .int m] ∧ isGr (.int g) = true ∧ 0 < m ∧ m ≤ 80 ∧ ∀ t, Right g t → R t.d
def TermI (u D : Addr) (g m : Int) (j : Nat) (ds : List PyData) (Γ : List DL.Slot) : Prop := ∃ (ps : List (Tm × (Int × Int))) (x y z k f : DL.Slot), ds = ps.map itemP ∧ (∀ p ∈ ps, POk g p) ∧ ps ≠ [] ∧ ps.length ≤ 3 + j ∧ Γ = [.v (.ref u), .d (.int g), .d (.int m), .v (.ref D), x, y, z, k, f]
theorem right_of {g : Int} {p : Tm × (Int × Int)} (h : POk g p) : Right g p.1 := ⟨h.1.1, h.2.1, h.2.2, p.2, h.1.2⟩
theorem c__law_term (T : Tp w K mg) (C__law_pull : Callee P w K mg base 1 "_law_pull" ["urn", "many"] (spU K S_pull)) (C__law_any : Callee P w K mg base 2 "_law_any" ["urn", "things"] (spU K S_any)) (C__law_anyP : Callee P w K mg base 2 "_law_any" ["urn", "things"] (spAnyP K))
    (C__law_leaf : Callee P w K mg base 4 "_law_leaf" ["urn", "ground"] (spU K S_leaf)) (C__law_over_one : Callee P w K mg base 2 "_law_over_one" ["urn", "one"] (spU K S_over1)) (C__law_over_two : Callee P w K mg base 2 "_law_over_two" ["urn", "one", "other"] (spU K S_over2)) :
    Callee P w K mg base 5 "_law_term" ["urn", "ground", "most"] (spU K S_term) := by
  obtain ⟨f, fd, F, b, mm⟩ := T.d__law_term.ex
  refine ⟨f, fd, okU F sc__law_term (fun ds R h => by obtain ⟨_, _, rfl, _⟩ := h; rfl) fun cdv A outer s H E hr => ⟨_, (pss_cons (ps_setLc (i := 3) (own := [("turn", 4)]) (g := (gName 4)) (tt := tYes) rfl sc__law_term.nd rfl rfl (sw_true rfl rfl rfl (by decide +kernel)) (pi_range1 (by rfl) T.z_range (pa_cons pe_int pa_nil)) (blkOk_by (N := N__law_term) (sc := defScope s__law_term) (by decide +kernel)) (fun _ _ _ _ _ => (pg_name (i := 4) sc__law_term.nd rfl (.inl rfl))) (fun _ _ _ _ _ => pts_nil) (fun _ _ _ _ _ => (pe_cl C__law_leaf (hr.mono (by omega)) (by rfl) (pa_cons (pv 0) (pa_cons (pv 1) pa_nil))))) (pss_cons (ps_for PassesOwn.never rfl (pi_range1 (by rfl) T.z_range (pa_cons (pe_cl C__law_pull (hr.mono (by omega)) (by rfl) (pa_cons (pv 0) (pa_cons (pv 2) pa_nil))) pa_nil)) (pg_name (i := 4) sc__law_term.nd rfl (.inl rfl)) (pss_cons (ps_par (i := 5) (j := 6) (by rfl) sc__law_term.nd rfl rfl (by decide) rfl rfl (pa_cons (pe_cl C__law_anyP (hr.mono (by omega)) (by rfl) (pa_cons (pv 0) (pa_cons (pv 3) pa_nil))) (pa_cons (pe_cl C__law_any (hr.mono (by omega)) (by rfl) (pa_cons (pv 0) (pa_cons (pe_op op_cat (pv 3) (pe_slice sl_list (pv 3) (po_some (pe_un un_neg pe_int)) po_none)) pa_nil))) pa_nil)) (by rfl)) (pss_cons (ps_set (i := 7) sc__law_term.nd rfl (.inl rfl) (pe_cl C__law_pull (hr.mono (by omega)) (by rfl) (pa_cons (pv 0) (pa_cons pe_int pa_nil)))) (pss_cons (ps_set (i := 8) sc__law_term.nd rfl (.inl rfl) (pe_cl C__law_leaf (hr.mono (by omega)) (by rfl) (pa_cons (pv 0) (pa_cons (pv 1) pa_nil)))) (pss_cons (ps_if (pt_cmpR (op_eqD hr.units) (pv 7) pe_int (nomark _)) (pss_one (ps_set (i := 8) sc__law_term.nd rfl (.inl rfl) (pe_cl C__law_over_one (hr.mono (by omega)) (by rfl) (pa_cons (pv 0) (pa_cons (pv 6) pa_nil))))) (pss_one (ps_if (pt_cmpR op_lt (pv 7) pe_int (nomark _)) (pss_one (ps_set (i := 8) sc__law_term.nd rfl (.inl rfl) (pe_ifExp (pt_cmpR (op_eqD hr.units) (pe_cl C__law_pull (hr.mono (by omega)) (by rfl) (pa_cons (pv 0) (pa_cons pe_int pa_nil))) pe_int (nomark _)) (pe_cl C__law_over_two (hr.mono (by omega)) (by rfl) (pa_cons (pv 0) (pa_cons (pv 5) (pa_cons (pv 6) pa_nil)))) (pe_cl C__law_over_two (hr.mono (by omega)) (by rfl) (pa_cons (pv 0) (pa_cons (pv 6) (pa_cons (pv 5) pa_nil))))))) pss_nil))) (pss_one (ps_if (PW.pt (pw_and (pt_cmpR op_le (pe_ix ix_tup (pv 8) pe_int (fun _ _ => rfl)) (pv 2) (nomark _)) (pw_and1 (pt_cmpR op_le (pe_ix ix_tup (pv 8) pe_int (fun _ _ => rfl)) pe_int (nomark _))))) (pss_one (ps_expr (pe_bm PySem.F.plainAttrs_list PySem.F.slot_list_append PySem.F.type_list_append mt_append (pv 3) (pa_cons (pv 8) pa_nil)))) pss_nil))))))) (pss_one (ps_ret (pe_ifExp (pt_cmpR op_gt (pe_cl C__law_pull (hr.mono (by omega)) (by rfl) (pa_cons (pv 0) (pa_cons pe_int pa_nil))) pe_int (nomark _)) (pe_ix ix_tup (pe_ix ix_list (pv 3) (pe_un un_neg pe_int) (fun _ _ => rfl)) pe_int (fun _ _ => rfl)) (pe_ix ix_tup (pe_cl C__law_anyP (hr.mono (by omega)) (by rfl) (pa_cons (pv 0) (pa_cons (pv 3) pa_nil))) pe_int (fun _ _ => rfl))))))), fun W u ds R hW h => ?_⟩, b, F.kp, mm⟩
  obtain ⟨g, m, rfl, hg, hm0, hm1, r⟩ := h
  try dsimp only [cxOf]
  refine (show DS K (W.urn K u) _ [.v (.ref u), .d (.int g), .d (.int m), .no, .no, .no, .no, .no, .no] _ from ?_)
  refine ds_poolU (en_lcR (sh_urn hW) ?_)
  repeat walk_at "dd"
  refine ⟨by decide, by decide, fun i y => ∃ p, POk g p ∧ y = itemP p, fun _ => False, fun i hi => ?_, fun ys hy => ?_⟩
  · refine ⟨_, cg_name (by decide), fun W' hsh => ?_⟩
    obtain ⟨W0, hW0, rfl⟩ := hsh
    repeat walk_at "dd"
    exact ⟨hg, fun t sd hp h1 h2 => ⟨(t, sd), ⟨hp, by show t.parts ≤ 80; omega, by show t.deep ≤ 30; omega⟩, rfl⟩⟩
  intro D hD
  have hU : ∀ ds, ¬ (W.pool K D ds).us u := fun ds => pool_nus hW hD
  have pw := poolU (K := K) hD
  obtain ⟨hy3, hye⟩ := hy.each
  have hit : ∃ ps : List (Tm × (Int × Int)), ys = ps.map itemP ∧ ∀ p ∈ ps, POk g p := by
    clear hy hy3
    induction ys with
    | nil => exact ⟨[], rfl, fun p hp => nomatch hp⟩
    | cons y ys ih =>
      obtain ⟨p, hp, rfl⟩ := hye 0 y rfl
      obtain ⟨ps, rfl, hps⟩ := ih fun i z hz => hye (i + 1) z hz
      exact ⟨p :: ps, rfl, fun q hq => by
        rcases List.mem_cons.mp hq with rfl | hq
        · exact hp
        · exact hps q hq⟩
  obtain ⟨ps, rfl, hps⟩ := hit
  rw [List.length_map] at hy3
  have hy3' : ps.length = 3 := hy3
  have hne3 : ps ≠ [] := fun z => by rw [z] at hy3'; exact absurd hy3' (by decide)
  refine (show DSf K (fun ds => (W.pool K D ds).urn K u) _ _ [.v (.ref u), .d (.int g), .d (.int m), .v (.ref D), .no, .no, .no, .no, .no] _ from ?_)
  refine dsf_seq (dsf_forR1 (TermI u D g m) ?_)
  refine da_cons (de_callU (hU _) ?_)
  repeat walk_at "dd"
  refine ⟨hm0, by omega, fun n n0 n1 => ?_⟩
  repeat walk_at "dd"
  refine ⟨by omega, by omega, ⟨ps, _, _, _, _, _, rfl, hps, hne3, by omega, rfl⟩, fun j ds Γ hj hI => ?_, fun ds Γ hI => ?_⟩
  · obtain ⟨ps, x, y, z, k, f, rfl, hps, hne, hlen, rfl⟩ := hI
    have hj' : j < 80 := by omega
    obtain ⟨qs, q, rfl⟩ := snoc_of hne
    rw [List.length_append, List.length_singleton] at hlen
    have em : List.map itemP (qs ++ [q]) = List.map itemP qs ++ [itemP q] := by rw [List.map_append]; rfl
    rw [em]
    have hall : ∀ d ∈ List.map itemP qs ++ [itemP q], ∃ p, POk g p ∧ d = itemP p := fun d hd => by
      rw [← em] at hd
      obtain ⟨p, hp, rfl⟩ := List.mem_map.mp hd
      exact ⟨p, hps p hp, rfl⟩
    refine dg_name ?_
    refine (show DSf K (fun ds => (W.pool K D ds).urn K u) _ _ [.v (.ref u), .d (.int g), .d (.int m), .v (.ref D), .d (.int (j : Int)), y, z, k, f] _ from ?_)
    refine dsf_seq (dsf_lift (ds_par ?_))
    refine da_cons (de_callAnyP (ds := List.map itemP qs ++ [itemP q]) rfl rfl hW hD (by simp) (by rw [List.length_append, List.length_map, List.length_singleton]; omega) fun d hd => ?_)
    obtain ⟨p1, hp1, rfl⟩ := hall d hd
    refine da_cons (de_callU (hU _) (da_consV rfl (da_cons (de_catLast (Wf := fun ds => (W.pool K D ds).urn K u) pw rfl (by rw [List.length_map]; omega) ?_))))
    repeat walk_at "dd"
    refine ⟨by simp, by simp only [List.length_append, List.length_map, List.length_singleton]; omega, fun d hd => ?_⟩
    have hd' : ∃ p, POk g p ∧ d = itemP p := by
      rcases List.mem_append.mp hd with h | h
      · exact hall d h
      · exact hall d (List.mem_append_right _ h)
    obtain ⟨p2, hp2, rfl⟩ := hd'
    walk_at "dd"
    refine ⟨_, _, rfl, ?_⟩
    refine (show DSf K (fun ds => (W.pool K D ds).urn K u) _ _ [.v (.ref u), .d (.int g), .d (.int m), .v (.ref D), .d (.int (j : Int)), .d (itemP p1), .d (itemP p2), k, f] _ from ?_)
    refine dsf_seq (dsf_lift (ds_set (de_callU (hU _) ?_)))
    repeat walk_at "dd"
    refine ⟨by decide, by decide, fun kd k0 k1 => ?_⟩
    refine (show DSf K (fun ds => (W.pool K D ds).urn K u) _ _ [.v (.ref u), .d (.int g), .d (.int m), .v (.ref D), .d (.int (j : Int)), .d (itemP p1), .d (itemP p2), .d (.int kd), f] _ from ?_)
    refine dsf_seq (dsf_lift (ds_set (de_callU (hU _) ?_)))
    repeat walk_at "dd"
    refine ⟨hg, fun t3 s3 hp3 _ _ => ?_⟩
    refine (show DSf K (fun ds => (W.pool K D ds).urn K u) _ _ [.v (.ref u), .d (.int g), .d (.int m), .v (.ref D), .d (.int (j : Int)), .d (itemP p1), .d (itemP p2), .d (.int kd), .d (itemP (t3, s3))] _ from ?_)
    refine dsf_seq (dsf_cut (fun ds' Γ => ds' = List.map itemP qs ++ [itemP q] ∧ ∃ p3, Pl g p3.1 p3.2 ∧ Γ = [.v (.ref u), .d (.int g), .d (.int m), .v (.ref D), .d (.int (j : Int)), .d (itemP p1), .d (itemP p2), .d (.int kd), .d (itemP p3)]) ?_ ?_)
    · refine dsf_if ?_
      repeat walk_at "dd"
      refine ite2 (fun c => ?_) (fun c => ?_)
      · refine dsf_lift (ds_set (de_callU (hU _) ?_))
        repeat walk_at "dd"
        exact ⟨g, p2.1, p2.2, rfl, hp2.1, fun t' s' h => ⟨rfl, (t', s'), h, rfl⟩⟩
      · refine dsf_if ?_
        repeat walk_at "dd"
        refine ite2 (fun c => ?_) (fun c => ?_)
        · refine dsf_lift (ds_set (de_if ?_))
          refine dt_test (de_eqD (de_callU (hU _) ?_))
          repeat walk_at "dd"
          refine ⟨by decide, by decide, fun n n0 n1 => ?_⟩
          repeat walk_at "dd"
          refine ite2 (fun c => ?_) (fun c => ?_)
          · refine de_callU (hU _) ?_
            repeat walk_at "dd"
            exact ⟨g, p1.1, p1.2, p2.1, p2.2, rfl, hp1.1, hp2.1, fun t' s' h => ⟨rfl, (t', s'), h, rfl⟩⟩
          · refine de_callU (hU _) ?_
            repeat walk_at "dd"
            exact ⟨g, p2.1, p2.2, p1.1, p1.2, rfl, hp2.1, hp1.1, fun t' s' h => ⟨rfl, (t', s'), h, rfl⟩⟩
        · exact dsf_nil ⟨rfl, (t3, s3), hp3, rfl⟩
    · intro ds' Γ hI
      obtain ⟨rfl, p3, hp3, rfl⟩ := hI
      have back : TermI u D g m (j + 1) (List.map itemP qs ++ [itemP q]) [.v (.ref u), .d (.int g), .d (.int m), .v (.ref D), .d (.int (j : Int)), .d (itemP p1), .d (itemP p2), .d (.int kd), .d (itemP p3)] :=
        ⟨qs ++ [q], _, _, _, _, _, em.symm, hps, by simp, by rw [List.length_append, List.length_singleton]; omega, rfl⟩
      refine (show DSf K (fun ds => (W.pool K D ds).urn K u) _ _ _ _ from ?_)
      refine dsf_if ?_
      repeat walk_at "dd"
      refine ite2 (fun c1 => ?_) (fun c1 => ?_)
      · repeat walk_at "dd"
        refine ite2 (fun c2 => ?_) (fun c2 => ?_)
        · refine dsf_append pw rfl (by rw [List.length_append, List.length_map, List.length_singleton]; omega) (de_var rfl ?_)
          have h1 : (p3.1.parts : Int) ≤ m := of_decide_eq_true c1
          have h2 : (p3.1.deep : Int) ≤ 30 := of_decide_eq_true c2
          refine ⟨(qs ++ [q]) ++ [p3], _, _, _, _, _, ?_, fun p hp => ?_, by simp, by rw [List.length_append, List.length_append, List.length_singleton, List.length_singleton]; omega, rfl⟩
          · rw [List.map_append, em]; rfl
          · rcases List.mem_append.mp hp with h | h
            · exact hps p h
            · cases List.mem_singleton.mp h
              exact ⟨hp3, by omega, by omega⟩
        · exact dsf_nil back
      · repeat walk_at "dd"
        exact back
  · obtain ⟨ps, x, y, z, k, f, rfl, hps, hne, hlen, rfl⟩ := hI
    obtain ⟨qs, q, rfl⟩ := snoc_of hne
    have em : List.map itemP (qs ++ [q]) = List.map itemP qs ++ [itemP q] := by rw [List.map_append]; rfl
    rw [List.length_append, List.length_singleton] at hlen
    rw [em]
    refine (show DSf K (fun ds => (W.pool K D ds).urn K u) _ _ _ _ from ?_)
    refine dsf_lift (ds_ret (de_if (dt_test (de_B0 (de_callU (hU _) ?_)))))
    repeat walk_at "dd"
    refine ⟨by decide, by decide, fun n n0 n1 => ?_⟩
    repeat walk_at "dd"
    refine ite2 (fun c => ?_) (fun c => ?_)
    · refine de_ixT (de_ixP (Wf := fun ds => (W.pool K D ds).urn K u) pw rfl ?_)
      repeat walk_at "dd"
      refine ⟨_, itemP q, rfl, atI_last _ _, ?_⟩
      repeat walk_at "dd"
      exact r q.1 (right_of (hps q (by simp)))
    · refine de_ixT (de_callAnyP (ds := List.map itemP qs ++ [itemP q]) rfl rfl hW hD (by simp) (by rw [List.length_append, List.length_map, List.length_singleton]; omega) fun d hd => ?_)
      rw [← em] at hd
      obtain ⟨p, hp, rfl⟩ := List.mem_map.mp hd
      repeat walk_at "dd"
      exact r p.1 (right_of (hps p hp))
end
end K86
set_option Elab.async false
set_option linter.all false
set_option maxRecDepth 100000
set_option maxHeartbeats 1000000
namespace K86
open PySem PyProof.Rows L2 DL KT
local macro_rules | `(tactic| walk_at "dd") => `(tactic| first
  | with_reducible refine dsf_nil ?_ | with_reducible refine dsf_seq ?_ | with_reducible refine dsf_if ?_ | with_reducible refine dsf_lift (ds_set ?_) | with_reducible refine dsf_lift (ds_ret ?_) | with_reducible refine dsf_lift (ds_par ?_)
  | with_reducible refine ds_nil ?_ | with_reducible refine ds_seq ?_ | with_reducible refine ds_ret ?_ | with_reducible refine ds_retN ?_ | with_reducible refine ds_set ?_ | with_reducible refine ds_if ?_ | with_reducible refine ds_drop ?_ | with_reducible refine ds_par ?_
  | ((with_reducible refine' de_var ?h ?_); (case h => rfl)) | ((with_reducible refine' de_c ?h ?_); (case h => rfl))
  | with_reducible refine de_I0 ?_ | with_reducible refine de_B0 ?_ | with_reducible refine de_I ?_ | with_reducible refine de_addStr ?_ | with_reducible refine de_eqS ?_ | with_reducible refine de_neS ?_ | with_reducible refine de_eqD ?_ | with_reducible refine de_neD ?_ | with_reducible refine de_isNo ?_ | with_reducible refine de_isNot ?_
  | with_reducible refine de_ixT ?_ | with_reducible refine de_ixL ?_ | with_reducible refine de_neg ?_ | with_reducible refine de_catT ?_ | with_reducible refine de_tail ?_ | with_reducible refine de_in ?_ | with_reducible refine de_inTab ?_ | with_reducible refine de_ixTab ?_ | with_reducible refine de_tabGet ?_ | with_reducible refine de_inD ?_
  | with_reducible refine de_abs ?_ | with_reducible refine de_int ?_ | with_reducible refine de_intBB ?_ | with_reducible refine de_str ?_ | with_reducible refine de_max ?_ | with_reducible refine de_min ?_ | with_reducible refine de_len ?_ | with_reducible refine de_lenS ?_ | with_reducible refine de_list ?_ | with_reducible refine de_tuple ?_
  | with_reducible refine de_isTup ?_ | with_reducible refine de_isLst ?_ | with_reducible refine de_isStr ?_ | with_reducible refine de_isBool ?_ | with_reducible refine de_isInt ?_
  | with_reducible refine de_tup ?_ | with_reducible refine de_lst ?_ | with_reducible refine de_call ?_ | ((with_reducible refine' de_callU ?h ?_); (case h => assumption))
  | with_reducible refine da_nil ?_ | ((with_reducible refine' da_consV ?h ?_); (case h => rfl)) | with_reducible refine da_cons ?_
  | with_reducible refine dt_test ?_ | with_reducible refine dt_B ?_ | with_reducible refine dt_not ?_ | with_reducible refine dt_and ?_ | with_reducible refine dt_or ?_
  | with_reducible refine de_andV ?_ | with_reducible refine de_orV ?_ | with_reducible refine de_notV ?_ | with_reducible refine de_if ?_
  | with_reducible refine de_chain od_B0 od_B0 ?_ | with_reducible refine dt_yes ?_
  | ((with_reducible refine' iteB ?h ?_); (case h => rfl)) | ((with_reducible refine' iteN ?h ?_); (case h => rfl))
  | refine ⟨_, _, _, rfl, rfl, rfl, ?_⟩ | refine ⟨_, _, rfl, rfl, True.intro, ?_⟩ | refine ⟨Nat.le_of_ble_eq_true rfl, ?_⟩ | refine ⟨_, .inl rfl, rfl, rfl, ?_⟩ | refine ⟨_, .inl rfl, ?_⟩ | refine ⟨_, .inr rfl, ?_⟩ | refine ⟨_, rfl, ?_⟩ | refine ⟨rfl, rfl, ?_⟩ | refine ⟨_, _, rfl, rfl, ?_⟩ | refine ⟨_, _, rfl, ?_⟩ | refine ⟨_, _, _, rfl, ?_⟩ | refine ⟨rfl, ?_⟩)

def tOne : Tm := .thn (.turned (.bes (.word .copy) (.word .wire))) (.thn (.word .add) (.turned (.turned (.word .later))))
def tOther : Tm := .bes (.loop (.thn (.word .add) (.word .copy))) (.bes (.word .wire) (.thn (.word .nought) (.word .drop)))
theorem one_text : tOne.text = "(copy, wire)' ; (add ; later'')" := by decide +kernel
theorem other_text : tOther.text = "loop(add ; copy), (wire, (nought ; drop))" := by decide +kernel
section
variable {P : Program} {w : World} {K : PySem.W.Frag} {mg : Str → Option Value} {base : Heap}
theorem ds_cut {W : Own} {Γ : List DL.Slot} {ts : TS} {P : Po} (I : List DL.Slot → Prop) (h : DS K W ts Γ { P with nx := I }) (k : ∀ Γ, I Γ → P.nx Γ) : DS K W ts Γ P := fun G H σ D w n k1 k2 k3 k4 =>
  h G H σ D w n (fun Γ' σ' G' H' s' w' n' q => k1 Γ' σ' G' H' s' w' n' (k Γ' q)) k2 k3 k4
def S_law (ds : List PyData) (R : PyData → Prop) : Prop := ∃ ns : List Int, ds = [.list (ns.map PyData.int)] ∧ R (.bool true)
theorem law_ok {f : Addr} {fd : FuncData} (F : Fun K "law" "law" s_law f fd) (T : Tp w K mg) (C__law_urn : Callee P w K mg base 1 "_law_urn" ["script"] (spMk K)) (C__law_pull : Callee P w K mg base 1 "_law_pull" ["urn", "many"] (spU K S_pull)) (C__law_any : Callee P w K mg base 2 "_law_any" ["urn", "things"] (spU K S_any))
    (C__law_ground : Callee P w K mg base 3 "_law_ground" ["urn"] (spU K S_ground)) (C__law_term : Callee P w K mg base 5 "_law_term" ["urn", "ground", "most"] (spU K S_term)) (C__law_great : Callee P w K mg base 32 "_law_great" ["urn", "term"] (spU K (S_great 30)))
    (C__law_text : Callee P w K mg base 61 "_law_text" ["term"] (spD K (S_text 30))) (C_term_text : Callee P w K mg base 62 "term_text" ["ground", "term"] (spD K S_term_text)) : FnOk P w K mg base CX0 63 f fd ["script"] (spD K S_law) := by
  refine okD F sc_law (fun ds R h => by obtain ⟨_, rfl, _⟩ := h; rfl) fun cdv A outer s H E hr => ⟨_, (pss_cons (ps_set (i := 1) sc_law.nd rfl (.inl rfl) (pe_cl C__law_urn (hr.mono (by omega)) (by rfl) (pa_cons (pv 0) pa_nil))) (pss_cons (ps_for PassesOwn.never rfl (pi_range1 (by rfl) T.z_range (pa_cons pe_int pa_nil)) (pg_name (i := 2) sc_law.nd rfl (.inl rfl)) (pss_cons (ps_set (i := 3) sc_law.nd rfl (.inl rfl) (pe_cl C__law_ground (hr.mono (by omega)) (by rfl) (pa_cons (pv 1) pa_nil))) (pss_cons (ps_set (i := 4) sc_law.nd rfl (.inl rfl) (pe_cl C__law_term (hr.mono (by omega)) (by rfl) (pa_cons (pv 1) (pa_cons (pv 3) (pa_cons (pe_cl C__law_any (hr.mono (by omega)) (by rfl) (pa_cons (pv 1) (pa_cons (pe_lst (pa_cons pe_int (pa_cons pe_int (pa_cons pe_int (pa_cons pe_int pa_nil))))) pa_nil))) pa_nil))))) (pss_cons (ps_if (PW.pt (pw_and (pt_cmpR (op_eqD hr.units) (pv 3) pe_int (nomark _)) (pw_and1 (pt_cmpR (op_eqD hr.units) (pe_cl C__law_pull (hr.mono (by omega)) (by rfl) (pa_cons (pv 1) (pa_cons pe_int pa_nil))) pe_int (nomark _))))) (pss_one (ps_set (i := 4) sc_law.nd rfl (.inl rfl) (pe_cl C__law_great (hr.mono (by omega)) (by rfl) (pa_cons (pv 1) (pa_cons (pv 4) pa_nil))))) pss_nil) (pss_cons (ps_set (i := 5) sc_law.nd rfl (.inl rfl) (pe_cl C_term_text (hr.mono (by omega)) (by rfl) (pa_cons (pv 3) (pa_cons (pv 4) pa_nil)))) (pss_one (ps_if (PW.pt (pw_or (pt_not (pt_val (pe_callB call_isi (by rfl) T.z_isinstance (by decide +kernel) (pa_cons (pv 5) (pa_cons (pe_bltn (v := .ty "str") (by rfl) T.z_str (by decide +kernel) rfl) pa_nil))))) (pw_or (pt_cmpR op_ne (pv 5) (pe_cl C__law_text (hr.mono (by omega)) (by rfl) (pa_cons (pv 4) pa_nil)) (nomark _)) (pw_or1 (pt_cmpR op_ne (pe_cl C_term_text (hr.mono (by omega)) (by rfl) (pa_cons (pv 3) (pa_cons (pv 4) pa_nil))) (pv 5) (nomark _)))))) (pss_one (ps_ret pe_bl)) pss_nil))))))) (pss_cons (ps_set (i := 6) sc_law.nd rfl (.inl rfl) (pe_tup (pa_cons pe_str (pa_cons (pe_tup (pa_cons pe_str (pa_cons (pe_tup (pa_cons pe_str (pa_cons pe_str (pa_cons pe_str pa_nil)))) pa_nil))) (pa_cons (pe_tup (pa_cons pe_str (pa_cons pe_str (pa_cons (pe_tup (pa_cons pe_str (pa_cons (pe_tup (pa_cons pe_str (pa_cons pe_str pa_nil))) pa_nil))) pa_nil)))) pa_nil))))) (pss_cons (ps_set (i := 7) sc_law.nd rfl (.inl rfl) (pe_tup (pa_cons pe_str (pa_cons (pe_tup (pa_cons pe_str (pa_cons (pe_tup (pa_cons pe_str (pa_cons pe_str (pa_cons pe_str pa_nil)))) pa_nil))) (pa_cons (pe_tup (pa_cons pe_str (pa_cons pe_str (pa_cons (pe_tup (pa_cons pe_str (pa_cons pe_str (pa_cons pe_str pa_nil)))) pa_nil)))) pa_nil))))) (pss_cons (ps_if (pt_cmpR op_ne (pe_cl C_term_text (hr.mono (by omega)) (by rfl) (pa_cons pe_int (pa_cons (pv 6) pa_nil))) pe_str (nomark _)) (pss_one (ps_ret pe_bl)) pss_nil) (pss_one (ps_ret (pe_cmpR op_eq (pe_cl C_term_text (hr.mono (by omega)) (by rfl) (pa_cons pe_int (pa_cons (pv 7) pa_nil))) pe_str (nomark _))))))))), fun W ds R h => ?_⟩
  obtain ⟨ns, rfl, r⟩ := h
  try dsimp only [cxOf]
  refine (show DS K W _ [.d (.list (ns.map PyData.int)), .no, .no, .no, .no, .no, .no, .no] _ from ?_)
  refine ds_mkUrn (j := 0) rfl fun u hu => ?_
  generalize hsc : PyData.list (ns.map PyData.int) = sc
  refine (show DS K (W.urn K u) _ [.d sc, .v (.ref u), .no, .no, .no, .no, .no, .no] _ from ?_)
  refine ds_seq (ds_forR1 (m := 6) (j := 0) (fun j Γ => ∃ x y z t : DL.Slot, Γ = [.d sc, .v (.ref u), x, y, z, t, .no, .no]) ?_)
  repeat walk_at "dd"
  refine ⟨by decide, by decide, ⟨_, _, _, _, rfl⟩, fun j Γ hj hI => ?_, fun Γ hI => ?_⟩
  · obtain ⟨x, y, z, t, rfl⟩ := hI
    refine dg_name ?_
    refine (show DS K (W.urn K u) _ [.d sc, .v (.ref u), .d (.int (j : Int)), y, z, t, .no, .no] _ from ?_)
    refine ds_seq (ds_set (de_callU hu ?_))
    repeat walk_at "dd"
    intro g hg
    refine (show DS K (W.urn K u) _ [.d sc, .v (.ref u), .d (.int (j : Int)), .d (.int g), z, t, .no, .no] _ from ?_)
    refine ds_seq (ds_set (de_callU hu ?_))
    repeat walk_at "dd"
    refine ⟨by decide, by decide, fun d hd => ?_⟩
    have hd' : ∃ m : Int, d = .int m ∧ 0 < m ∧ m ≤ 80 := by
      simp only [List.mem_cons, List.not_mem_nil, or_false] at hd
      rcases hd with rfl | rfl | rfl | rfl <;> exact ⟨_, rfl, by decide, by decide⟩
    obtain ⟨m, rfl, hm0, hm1⟩ := hd'
    repeat walk_at "dd"
    refine ⟨hg, hm0, hm1, fun t0 ht0 => ?_⟩
    refine (show DS K (W.urn K u) _ [.d sc, .v (.ref u), .d (.int (j : Int)), .d (.int g), .d t0.d, t, .no, .no] _ from ?_)
    refine ds_seq (ds_cut (fun Γ => ∃ t1 : Tm, Right g t1 ∧ Γ = [.d sc, .v (.ref u), .d (.int (j : Int)), .d (.int g), .d t1.d, t, .no, .no]) ?_ ?_)
    · refine ds_if ?_
      repeat walk_at "dd"
      refine ite2 (fun c => ?_) (fun c => ?_)
      · have hg0 : g = 0 := eq_of_beq c
        subst hg0
        repeat walk_at "dd"
        refine ⟨by decide, by decide, fun n n0 n1 => ?_⟩
        repeat walk_at "dd"
        refine ite2 (fun c => ?_) (fun c => ?_)
        · refine ds_set (de_callU hu ?_)
          repeat walk_at "dd"
          exact ⟨ht0.1, ht0.2.2.1, fun t' hl => ⟨t', ⟨hl.1, by rw [hl.2.1]; exact ht0.2.1, by rw [hl.2.2.1]; exact ht0.2.2.1, by rw [hl.2.2.2]; exact ht0.2.2.2⟩, rfl⟩⟩
        · exact ds_nil ⟨t0, ht0, rfl⟩
      · repeat walk_at "dd"
        exact ⟨t0, ht0, rfl⟩
    · intro Γ hI
      obtain ⟨t1, ht1, rfl⟩ := hI
      refine (show DS K (W.urn K u) _ _ _ from ?_)
      refine ds_seq (ds_set (de_call ?_))
      repeat walk_at "dd"
      refine ⟨hg, ht1, ?_⟩
      refine (show DS K (W.urn K u) _ [.d sc, .v (.ref u), .d (.int (j : Int)), .d (.int g), .d t1.d, .d (.str t1.text), .no, .no] _ from ?_)
      have e1 : (!decide (t1.text = t1.text)) = false := by rw [decide_eq_true rfl]; rfl
      refine ds_if ?_
      repeat walk_at "dd"
      refine ⟨t1, g, rfl, ht1.1, ht1.2.1, ht1.2.2.1, ?_⟩
      repeat walk_at "dd"
      rw [e1]
      repeat walk_at "dd"
      refine ⟨hg, ht1, ?_⟩
      repeat walk_at "dd"
      rw [e1]
      repeat walk_at "dd"
      exact ⟨_, _, _, _, rfl⟩
  · obtain ⟨x, y, z, t, rfl⟩ := hI
    have e1 : (!decide (tOne.text = "(copy, wire)' ; (add ; later'')")) = false := by rw [decide_eq_true one_text]; rfl
    repeat walk_at "dd"
    refine ⟨0, tOne, rfl, rfl, ⟨by simp [tOne, Tm.nums], by decide, by decide, _, rfl⟩, ?_⟩
    repeat walk_at "dd"
    refine ⟨2, tOther, rfl, rfl, ⟨by simp [tOther, Tm.nums], by decide, by decide, _, rfl⟩, ?_⟩
    repeat walk_at "dd"
    exact R_eq r (by rw [decide_eq_true other_text])
def spLaw (K : PySem.W.Frag) : Sp := fun vs H Q _ => ∃ (a : Addr) (ns : List Int), vs = [.ref a] ∧ SqL K H a (ns.map V.int) ∧ ns.length ≤ 63 ∧ ∀ H', Q (.bl true) H'
theorem law_sp {f : Addr} {fd : FuncData} {k : Nat} (h : FnOk P w K mg base CX0 k f fd ["script"] (spD K S_law)) : FnOk P w K mg base CX0 k f fd ["script"] (spLaw K) := h.imp fun vs H Q E z => by
  obtain ⟨a, ns, rfl, hS, _, q⟩ := z
  refine ⟨own0, H, [.list (ns.map PyData.int)], fun d => d = .bool true, own0_ok H, .cons (.lst hS (dpA_ints ns)) .nil, ⟨ns, rfl, rfl⟩, fun v d G' H' _ _ hd e => ?_⟩
  subst e
  cases dp_bool hd
  exact q H'
theorem law_all {f : Addr} {fd : FuncData} (F : Fun K "law" "law" s_law f fd) (T : Tp w K mg) : FnOk P w K mg base CX0 63 f fd ["script"] (spLaw K) := by
  have i1 := c_is_integer (P := P) (base := base) T
  have i2 := c_is_within T i1
  have i3 := c_is_pair (P := P) (base := base) T
  have i4 := c_is_ground T i1
  have i5 := c_check_ground T i4
  have i6 := c_divisor (P := P) (base := base) T
  have i7 := c_is_num T i1 i3 i2 i6
  have i8 := c_number_text (P := P) (base := base) T
  have i9 := c_inner_terms (P := P) (base := base) T
  have i10 := c_is_shaped T i3 i7
  have i11 := c_is_bounded T i9 i10
  have i12 := c_joint_sides (P := P) (base := base) T
  have i13 := c_sides_of T i9 i12 30
  have i14 := c_is_term_of T i11 i13
  have i15 := c_is_term T i5 i14
  have i16 := c_bound_of (P := P) (base := base) T
  have i17 := c_text_of T i8 i16 30
  have i18 := c_term_text T i15 i17
  have l1 := c__law_urn (P := P) (base := base) T
  have l2 := c__law_pull (P := P) (base := base) T
  have l3 := c__law_any T l2
  have l4 := c__law_anyP T l2
  have l5 := c__law_gcd (P := P) (base := base) T
  have l6 := c__law_number T l5
  have l7 := c__law_drawn T l2 l3 l6
  have l8 := c__law_ground T l3
  have l9 := c__law_sides (P := P) (base := base) T
  have l10 := c__law_leaf T l2 l3 l7 l9
  have l11 := c__law_over_one T l2
  have l12 := c__law_over_two T l2
  have l13 := c__law_term T l2 l3 l4 l10 l11 l12
  have l14 := c__law_number_text (P := P) (base := base) T
  have l15 := c__law_bound (P := P) (base := base) T
  have l16 := c__law_text T l14 l15 30
  have l17 := c__law_great T l3 l6 30
  exact law_sp (law_ok F T l1 l2 l3 l8 l13 l17 l16 i18)
end
theorem fin {l : PySem.W.OpenLaw} {w : World} {K : PySem.W.Frag} {mg : Str → Option Value} {fa : Addr} (hfa : mg "law" = some (.ref fa)) (T : Tp w K mg) :
    ∃ fd : FuncData, (∀ (s : Shared) (v : Value), BindsTo s fd ⟨[v], []⟩ [("script", v)]) ∧ ∀ base : Heap, K.In base → base.Ns mainGlobals mg → FnOk l.prog w K mg base CX0 63 fa fd ["script"] (spLaw K) := by
  obtain ⟨f, fd, F, b, m⟩ := T.d_law.ex
  rw [m] at hfa
  cases hfa
  refine ⟨fd, ?_, fun base _ _ => law_all F T⟩
  obtain ⟨oc, od, kV, doc, pm, an, cdv, ct, osl, rfl, lk, hcd⟩ := F.ex
  exact fun s v => .of_eq rfl
end K86
set_option Elab.async false
set_option linter.all false
set_option maxRecDepth 100000
set_option maxHeartbeats 4000000
namespace K86
open PySem PyProof.Rows L2 DL
theorem lookup_all (Q : Str → PyData → Prop) : ∀ {l : List (Str × PyData)}, (∀ p ∈ l, Q p.1 p.2) → ∀ z d, List.lookup z l = some d → Q z d
  | [], _, _, _, h => nomatch h
  | (k, v) :: l, hq, z, d, h => by
    unfold List.lookup at h
    cases hz : z == k with
    | true =>
      rw [hz] at h
      have e := eq_of_beq hz
      cases Option.some.inj h
      subst e
      exact hq (z, v) List.mem_cons_self
    | false =>
      rw [hz] at h
      exact lookup_all Q (fun p hp => hq p (List.mem_cons_of_mem _ hp)) z d h
theorem tp_mk {w : World} {K : PySem.W.Frag} {h : Heap} {mg : Str → Option Value} (X : K.In h) (G : h.Ns mainGlobals mg)
    {f_is_integer : Addr} {od_is_integer an_is_integer : Option Addr} {sl_is_integer : Array (Option Value)} {oc_is_integer kV_is_integer dc_is_integer pm_is_integer cd_is_integer ct_is_integer : Value}
    {f_is_within : Addr} {od_is_within an_is_within : Option Addr} {sl_is_within : Array (Option Value)} {oc_is_within kV_is_within dc_is_within pm_is_within cd_is_within ct_is_within : Value}
    {f_is_pair : Addr} {od_is_pair an_is_pair : Option Addr} {sl_is_pair : Array (Option Value)} {oc_is_pair kV_is_pair dc_is_pair pm_is_pair cd_is_pair ct_is_pair : Value}
    {f_is_ground : Addr} {od_is_ground an_is_ground : Option Addr} {sl_is_ground : Array (Option Value)} {oc_is_ground kV_is_ground dc_is_ground pm_is_ground cd_is_ground ct_is_ground : Value}
    {f_check_ground : Addr} {od_check_ground an_check_ground : Option Addr} {sl_check_ground : Array (Option Value)} {oc_check_ground kV_check_ground dc_check_ground pm_check_ground cd_check_ground ct_check_ground : Value}
    {f_divisor : Addr} {od_divisor an_divisor : Option Addr} {sl_divisor : Array (Option Value)} {oc_divisor kV_divisor dc_divisor pm_divisor cd_divisor ct_divisor : Value}
    {f_is_num : Addr} {od_is_num an_is_num : Option Addr} {sl_is_num : Array (Option Value)} {oc_is_num kV_is_num dc_is_num pm_is_num cd_is_num ct_is_num : Value}
    {f_number_text : Addr} {od_number_text an_number_text : Option Addr} {sl_number_text : Array (Option Value)} {oc_number_text kV_number_text dc_number_text pm_number_text cd_number_text ct_number_text : Value}
    {f_inner_terms : Addr} {od_inner_terms an_inner_terms : Option Addr} {sl_inner_terms : Array (Option Value)} {oc_inner_terms kV_inner_terms dc_inner_terms pm_inner_terms cd_inner_terms ct_inner_terms : Value}
    {f_is_shaped : Addr} {od_is_shaped an_is_shaped : Option Addr} {sl_is_shaped : Array (Option Value)} {oc_is_shaped kV_is_shaped dc_is_shaped pm_is_shaped cd_is_shaped ct_is_shaped : Value}
    {f_is_bounded : Addr} {od_is_bounded an_is_bounded : Option Addr} {sl_is_bounded : Array (Option Value)} {oc_is_bounded kV_is_bounded dc_is_bounded pm_is_bounded cd_is_bounded ct_is_bounded : Value}
    {f_joint_sides : Addr} {od_joint_sides an_joint_sides : Option Addr} {sl_joint_sides : Array (Option Value)} {oc_joint_sides kV_joint_sides dc_joint_sides pm_joint_sides cd_joint_sides ct_joint_sides : Value}
    {f_sides_of : Addr} {od_sides_of an_sides_of : Option Addr} {sl_sides_of : Array (Option Value)} {oc_sides_of kV_sides_of dc_sides_of pm_sides_of cd_sides_of ct_sides_of : Value}
    {f_is_term_of : Addr} {od_is_term_of an_is_term_of : Option Addr} {sl_is_term_of : Array (Option Value)} {oc_is_term_of kV_is_term_of dc_is_term_of pm_is_term_of cd_is_term_of ct_is_term_of : Value}
    {f_is_term : Addr} {od_is_term an_is_term : Option Addr} {sl_is_term : Array (Option Value)} {oc_is_term kV_is_term dc_is_term pm_is_term cd_is_term ct_is_term : Value}
    {f_bound_of : Addr} {od_bound_of an_bound_of : Option Addr} {sl_bound_of : Array (Option Value)} {oc_bound_of kV_bound_of dc_bound_of pm_bound_of cd_bound_of ct_bound_of : Value}
    {f_text_within : Addr} {od_text_within an_text_within : Option Addr} {sl_text_within : Array (Option Value)} {oc_text_within kV_text_within dc_text_within pm_text_within cd_text_within ct_text_within : Value}
    {f_text_of : Addr} {od_text_of an_text_of : Option Addr} {sl_text_of : Array (Option Value)} {oc_text_of kV_text_of dc_text_of pm_text_of cd_text_of ct_text_of : Value}
    {f_term_text : Addr} {od_term_text an_term_text : Option Addr} {sl_term_text : Array (Option Value)} {oc_term_text kV_term_text dc_term_text pm_term_text cd_term_text ct_term_text : Value}
    {f__law_urn : Addr} {od__law_urn an__law_urn : Option Addr} {sl__law_urn : Array (Option Value)} {oc__law_urn kV__law_urn dc__law_urn pm__law_urn cd__law_urn ct__law_urn : Value}
    {f__law_pull : Addr} {od__law_pull an__law_pull : Option Addr} {sl__law_pull : Array (Option Value)} {oc__law_pull kV__law_pull dc__law_pull pm__law_pull cd__law_pull ct__law_pull : Value}
    {f__law_any : Addr} {od__law_any an__law_any : Option Addr} {sl__law_any : Array (Option Value)} {oc__law_any kV__law_any dc__law_any pm__law_any cd__law_any ct__law_any : Value}
    {f__law_gcd : Addr} {od__law_gcd an__law_gcd : Option Addr} {sl__law_gcd : Array (Option Value)} {oc__law_gcd kV__law_gcd dc__law_gcd pm__law_gcd cd__law_gcd ct__law_gcd : Value}
    {f__law_number : Addr} {od__law_number an__law_number : Option Addr} {sl__law_number : Array (Option Value)} {oc__law_number kV__law_number dc__law_number pm__law_number cd__law_number ct__law_number : Value}
    {f__law_drawn : Addr} {od__law_drawn an__law_drawn : Option Addr} {sl__law_drawn : Array (Option Value)} {oc__law_drawn kV__law_drawn dc__law_drawn pm__law_drawn cd__law_drawn ct__law_drawn : Value}
    {f__law_ground : Addr} {od__law_ground an__law_ground : Option Addr} {sl__law_ground : Array (Option Value)} {oc__law_ground kV__law_ground dc__law_ground pm__law_ground cd__law_ground ct__law_ground : Value}
    {f__law_sides : Addr} {od__law_sides an__law_sides : Option Addr} {sl__law_sides : Array (Option Value)} {oc__law_sides kV__law_sides dc__law_sides pm__law_sides cd__law_sides ct__law_sides : Value}
    {f__law_leaf : Addr} {od__law_leaf an__law_leaf : Option Addr} {sl__law_leaf : Array (Option Value)} {oc__law_leaf kV__law_leaf dc__law_leaf pm__law_leaf cd__law_leaf ct__law_leaf : Value}
    {f__law_over_one : Addr} {od__law_over_one an__law_over_one : Option Addr} {sl__law_over_one : Array (Option Value)} {oc__law_over_one kV__law_over_one dc__law_over_one pm__law_over_one cd__law_over_one ct__law_over_one : Value}
    {f__law_over_two : Addr} {od__law_over_two an__law_over_two : Option Addr} {sl__law_over_two : Array (Option Value)} {oc__law_over_two kV__law_over_two dc__law_over_two pm__law_over_two cd__law_over_two ct__law_over_two : Value}
    {f__law_term : Addr} {od__law_term an__law_term : Option Addr} {sl__law_term : Array (Option Value)} {oc__law_term kV__law_term dc__law_term pm__law_term cd__law_term ct__law_term : Value}
    {f__law_number_text : Addr} {od__law_number_text an__law_number_text : Option Addr} {sl__law_number_text : Array (Option Value)} {oc__law_number_text kV__law_number_text dc__law_number_text pm__law_number_text cd__law_number_text ct__law_number_text : Value}
    {f__law_bound : Addr} {od__law_bound an__law_bound : Option Addr} {sl__law_bound : Array (Option Value)} {oc__law_bound kV__law_bound dc__law_bound pm__law_bound cd__law_bound ct__law_bound : Value}
    {f__law_in : Addr} {od__law_in an__law_in : Option Addr} {sl__law_in : Array (Option Value)} {oc__law_in kV__law_in dc__law_in pm__law_in cd__law_in ct__law_in : Value}
    {f__law_text : Addr} {od__law_text an__law_text : Option Addr} {sl__law_text : Array (Option Value)} {oc__law_text kV__law_text dc__law_text pm__law_text cd__law_text ct__law_text : Value}
    {f__law_great : Addr} {od__law_great an__law_great : Option Addr} {sl__law_great : Array (Option Value)} {oc__law_great kV__law_great dc__law_great pm__law_great cd__law_great ct__law_great : Value}
    {f_law : Addr} {od_law an_law : Option Addr} {sl_law : Array (Option Value)} {oc_law kV_law dc_law pm_law cd_law ct_law : Value}
    {ad_PRIMES : Addr}
    {dd_PRIMES : Option Addr} {its_PRIMES : Array Value} {n_PRIMES : Nat} {sl_PRIMES : Array (Option Value)}
    {u_OVER : Value}
    {ad_SIDES : Addr} {es_SIDES : Array DictEntry} {n_SIDES : Nat}
    {ad_SIDES_0 : Addr}
    {dd_SIDES_0 : Option Addr} {its_SIDES_0 : Array Value} {n_SIDES_0 : Nat} {sl_SIDES_0 : Array (Option Value)}
    {ad_SIDES_1 : Addr}
    {dd_SIDES_1 : Option Addr} {its_SIDES_1 : Array Value} {n_SIDES_1 : Nat} {sl_SIDES_1 : Array (Option Value)}
    {ad_SIDES_2 : Addr}
    {dd_SIDES_2 : Option Addr} {its_SIDES_2 : Array Value} {n_SIDES_2 : Nat} {sl_SIDES_2 : Array (Option Value)}
    {ad_SIDES_3 : Addr}
    {dd_SIDES_3 : Option Addr} {its_SIDES_3 : Array Value} {n_SIDES_3 : Nat} {sl_SIDES_3 : Array (Option Value)}
    {ad_SIDES_4 : Addr}
    {dd_SIDES_4 : Option Addr} {its_SIDES_4 : Array Value} {n_SIDES_4 : Nat} {sl_SIDES_4 : Array (Option Value)}
    {ad_SIDES_5 : Addr}
    {dd_SIDES_5 : Option Addr} {its_SIDES_5 : Array Value} {n_SIDES_5 : Nat} {sl_SIDES_5 : Array (Option Value)}
    {ad_SIDES_6 : Addr}
    {dd_SIDES_6 : Option Addr} {its_SIDES_6 : Array Value} {n_SIDES_6 : Nat} {sl_SIDES_6 : Array (Option Value)}
    {ad_JOINTS : Addr} {es_JOINTS : Array DictEntry} {n_JOINTS : Nat}
    {u_JOINTS_0 : Value}
    {u_JOINTS_1 : Value}
    {u_JOINTS_2 : Value}
    {u_JOINTS_3 : Value}
    {u_MOST_PARTS : Value}
    {u_MOST_DEEP : Value}
    {u_TIGHT : Value}
    {u_LOOSE : Value}
    {u_MIDDLE : Value}
    {u_THEN : Value}
    {u_BESIDE : Value}
    {u_TIMES : Value}
    {u_TURNED : Value}
    {u_LOOP : Value}
    {u_BLANK : Value}
    (a_is_integer : PySem.W.nsIn K mainGlobals "is_integer" = some (some (.ref f_is_integer))) (l_is_integer : K.lookup f_is_integer = some ⟨oc_is_integer, od_is_integer, .func (PySem.W.fnOf "is_integer" "is_integer" (defArgs s_is_integer) (defBody s_is_integer) (defScope s_is_integer) .none kV_is_integer dc_is_integer pm_is_integer an_is_integer cd_is_integer ct_is_integer), sl_is_integer⟩) (c_is_integer : PySem.W.codeIn K cd_is_integer "is_integer" = true) (k_is_integer : PySem.W.keepIn K (.ref f_is_integer) = true)
    (a_is_within : PySem.W.nsIn K mainGlobals "is_within" = some (some (.ref f_is_within))) (l_is_within : K.lookup f_is_within = some ⟨oc_is_within, od_is_within, .func (PySem.W.fnOf "is_within" "is_within" (defArgs s_is_within) (defBody s_is_within) (defScope s_is_within) .none kV_is_within dc_is_within pm_is_within an_is_within cd_is_within ct_is_within), sl_is_within⟩) (c_is_within : PySem.W.codeIn K cd_is_within "is_within" = true) (k_is_within : PySem.W.keepIn K (.ref f_is_within) = true)
    (a_is_pair : PySem.W.nsIn K mainGlobals "is_pair" = some (some (.ref f_is_pair))) (l_is_pair : K.lookup f_is_pair = some ⟨oc_is_pair, od_is_pair, .func (PySem.W.fnOf "is_pair" "is_pair" (defArgs s_is_pair) (defBody s_is_pair) (defScope s_is_pair) .none kV_is_pair dc_is_pair pm_is_pair an_is_pair cd_is_pair ct_is_pair), sl_is_pair⟩) (c_is_pair : PySem.W.codeIn K cd_is_pair "is_pair" = true) (k_is_pair : PySem.W.keepIn K (.ref f_is_pair) = true)
    (a_is_ground : PySem.W.nsIn K mainGlobals "is_ground" = some (some (.ref f_is_ground))) (l_is_ground : K.lookup f_is_ground = some ⟨oc_is_ground, od_is_ground, .func (PySem.W.fnOf "is_ground" "is_ground" (defArgs s_is_ground) (defBody s_is_ground) (defScope s_is_ground) .none kV_is_ground dc_is_ground pm_is_ground an_is_ground cd_is_ground ct_is_ground), sl_is_ground⟩) (c_is_ground : PySem.W.codeIn K cd_is_ground "is_ground" = true) (k_is_ground : PySem.W.keepIn K (.ref f_is_ground) = true)
    (a_check_ground : PySem.W.nsIn K mainGlobals "check_ground" = some (some (.ref f_check_ground))) (l_check_ground : K.lookup f_check_ground = some ⟨oc_check_ground, od_check_ground, .func (PySem.W.fnOf "check_ground" "check_ground" (defArgs s_check_ground) (defBody s_check_ground) (defScope s_check_ground) .none kV_check_ground dc_check_ground pm_check_ground an_check_ground cd_check_ground ct_check_ground), sl_check_ground⟩) (c_check_ground : PySem.W.codeIn K cd_check_ground "check_ground" = true) (k_check_ground : PySem.W.keepIn K (.ref f_check_ground) = true)
    (a_divisor : PySem.W.nsIn K mainGlobals "divisor" = some (some (.ref f_divisor))) (l_divisor : K.lookup f_divisor = some ⟨oc_divisor, od_divisor, .func (PySem.W.fnOf "divisor" "divisor" (defArgs s_divisor) (defBody s_divisor) (defScope s_divisor) .none kV_divisor dc_divisor pm_divisor an_divisor cd_divisor ct_divisor), sl_divisor⟩) (c_divisor : PySem.W.codeIn K cd_divisor "divisor" = true) (k_divisor : PySem.W.keepIn K (.ref f_divisor) = true)
    (a_is_num : PySem.W.nsIn K mainGlobals "is_num" = some (some (.ref f_is_num))) (l_is_num : K.lookup f_is_num = some ⟨oc_is_num, od_is_num, .func (PySem.W.fnOf "is_num" "is_num" (defArgs s_is_num) (defBody s_is_num) (defScope s_is_num) .none kV_is_num dc_is_num pm_is_num an_is_num cd_is_num ct_is_num), sl_is_num⟩) (c_is_num : PySem.W.codeIn K cd_is_num "is_num" = true) (k_is_num : PySem.W.keepIn K (.ref f_is_num) = true)
    (a_number_text : PySem.W.nsIn K mainGlobals "number_text" = some (some (.ref f_number_text))) (l_number_text : K.lookup f_number_text = some ⟨oc_number_text, od_number_text, .func (PySem.W.fnOf "number_text" "number_text" (defArgs s_number_text) (defBody s_number_text) (defScope s_number_text) .none kV_number_text dc_number_text pm_number_text an_number_text cd_number_text ct_number_text), sl_number_text⟩) (c_number_text : PySem.W.codeIn K cd_number_text "number_text" = true) (k_number_text : PySem.W.keepIn K (.ref f_number_text) = true)
    (a_inner_terms : PySem.W.nsIn K mainGlobals "inner_terms" = some (some (.ref f_inner_terms))) (l_inner_terms : K.lookup f_inner_terms = some ⟨oc_inner_terms, od_inner_terms, .func (PySem.W.fnOf "inner_terms" "inner_terms" (defArgs s_inner_terms) (defBody s_inner_terms) (defScope s_inner_terms) .none kV_inner_terms dc_inner_terms pm_inner_terms an_inner_terms cd_inner_terms ct_inner_terms), sl_inner_terms⟩) (c_inner_terms : PySem.W.codeIn K cd_inner_terms "inner_terms" = true) (k_inner_terms : PySem.W.keepIn K (.ref f_inner_terms) = true)
    (a_is_shaped : PySem.W.nsIn K mainGlobals "is_shaped" = some (some (.ref f_is_shaped))) (l_is_shaped : K.lookup f_is_shaped = some ⟨oc_is_shaped, od_is_shaped, .func (PySem.W.fnOf "is_shaped" "is_shaped" (defArgs s_is_shaped) (defBody s_is_shaped) (defScope s_is_shaped) .none kV_is_shaped dc_is_shaped pm_is_shaped an_is_shaped cd_is_shaped ct_is_shaped), sl_is_shaped⟩) (c_is_shaped : PySem.W.codeIn K cd_is_shaped "is_shaped" = true) (k_is_shaped : PySem.W.keepIn K (.ref f_is_shaped) = true)
    (a_is_bounded : PySem.W.nsIn K mainGlobals "is_bounded" = some (some (.ref f_is_bounded))) (l_is_bounded : K.lookup f_is_bounded = some ⟨oc_is_bounded, od_is_bounded, .func (PySem.W.fnOf "is_bounded" "is_bounded" (defArgs s_is_bounded) (defBody s_is_bounded) (defScope s_is_bounded) .none kV_is_bounded dc_is_bounded pm_is_bounded an_is_bounded cd_is_bounded ct_is_bounded), sl_is_bounded⟩) (c_is_bounded : PySem.W.codeIn K cd_is_bounded "is_bounded" = true) (k_is_bounded : PySem.W.keepIn K (.ref f_is_bounded) = true)
    (a_joint_sides : PySem.W.nsIn K mainGlobals "joint_sides" = some (some (.ref f_joint_sides))) (l_joint_sides : K.lookup f_joint_sides = some ⟨oc_joint_sides, od_joint_sides, .func (PySem.W.fnOf "joint_sides" "joint_sides" (defArgs s_joint_sides) (defBody s_joint_sides) (defScope s_joint_sides) .none kV_joint_sides dc_joint_sides pm_joint_sides an_joint_sides cd_joint_sides ct_joint_sides), sl_joint_sides⟩) (c_joint_sides : PySem.W.codeIn K cd_joint_sides "joint_sides" = true) (k_joint_sides : PySem.W.keepIn K (.ref f_joint_sides) = true)
    (a_sides_of : PySem.W.nsIn K mainGlobals "sides_of" = some (some (.ref f_sides_of))) (l_sides_of : K.lookup f_sides_of = some ⟨oc_sides_of, od_sides_of, .func (PySem.W.fnOf "sides_of" "sides_of" (defArgs s_sides_of) (defBody s_sides_of) (defScope s_sides_of) .none kV_sides_of dc_sides_of pm_sides_of an_sides_of cd_sides_of ct_sides_of), sl_sides_of⟩) (c_sides_of : PySem.W.codeIn K cd_sides_of "sides_of" = true) (k_sides_of : PySem.W.keepIn K (.ref f_sides_of) = true)
    (a_is_term_of : PySem.W.nsIn K mainGlobals "is_term_of" = some (some (.ref f_is_term_of))) (l_is_term_of : K.lookup f_is_term_of = some ⟨oc_is_term_of, od_is_term_of, .func (PySem.W.fnOf "is_term_of" "is_term_of" (defArgs s_is_term_of) (defBody s_is_term_of) (defScope s_is_term_of) .none kV_is_term_of dc_is_term_of pm_is_term_of an_is_term_of cd_is_term_of ct_is_term_of), sl_is_term_of⟩) (c_is_term_of : PySem.W.codeIn K cd_is_term_of "is_term_of" = true) (k_is_term_of : PySem.W.keepIn K (.ref f_is_term_of) = true)
    (a_is_term : PySem.W.nsIn K mainGlobals "is_term" = some (some (.ref f_is_term))) (l_is_term : K.lookup f_is_term = some ⟨oc_is_term, od_is_term, .func (PySem.W.fnOf "is_term" "is_term" (defArgs s_is_term) (defBody s_is_term) (defScope s_is_term) .none kV_is_term dc_is_term pm_is_term an_is_term cd_is_term ct_is_term), sl_is_term⟩) (c_is_term : PySem.W.codeIn K cd_is_term "is_term" = true) (k_is_term : PySem.W.keepIn K (.ref f_is_term) = true)
    (a_bound_of : PySem.W.nsIn K mainGlobals "bound_of" = some (some (.ref f_bound_of))) (l_bound_of : K.lookup f_bound_of = some ⟨oc_bound_of, od_bound_of, .func (PySem.W.fnOf "bound_of" "bound_of" (defArgs s_bound_of) (defBody s_bound_of) (defScope s_bound_of) .none kV_bound_of dc_bound_of pm_bound_of an_bound_of cd_bound_of ct_bound_of), sl_bound_of⟩) (c_bound_of : PySem.W.codeIn K cd_bound_of "bound_of" = true) (k_bound_of : PySem.W.keepIn K (.ref f_bound_of) = true)
    (a_text_within : PySem.W.nsIn K mainGlobals "text_within" = some (some (.ref f_text_within))) (l_text_within : K.lookup f_text_within = some ⟨oc_text_within, od_text_within, .func (PySem.W.fnOf "text_within" "text_within" (defArgs s_text_within) (defBody s_text_within) (defScope s_text_within) .none kV_text_within dc_text_within pm_text_within an_text_within cd_text_within ct_text_within), sl_text_within⟩) (c_text_within : PySem.W.codeIn K cd_text_within "text_within" = true) (k_text_within : PySem.W.keepIn K (.ref f_text_within) = true)
    (a_text_of : PySem.W.nsIn K mainGlobals "text_of" = some (some (.ref f_text_of))) (l_text_of : K.lookup f_text_of = some ⟨oc_text_of, od_text_of, .func (PySem.W.fnOf "text_of" "text_of" (defArgs s_text_of) (defBody s_text_of) (defScope s_text_of) .none kV_text_of dc_text_of pm_text_of an_text_of cd_text_of ct_text_of), sl_text_of⟩) (c_text_of : PySem.W.codeIn K cd_text_of "text_of" = true) (k_text_of : PySem.W.keepIn K (.ref f_text_of) = true)
    (a_term_text : PySem.W.nsIn K mainGlobals "term_text" = some (some (.ref f_term_text))) (l_term_text : K.lookup f_term_text = some ⟨oc_term_text, od_term_text, .func (PySem.W.fnOf "term_text" "term_text" (defArgs s_term_text) (defBody s_term_text) (defScope s_term_text) .none kV_term_text dc_term_text pm_term_text an_term_text cd_term_text ct_term_text), sl_term_text⟩) (c_term_text : PySem.W.codeIn K cd_term_text "term_text" = true) (k_term_text : PySem.W.keepIn K (.ref f_term_text) = true)
    (a__law_urn : PySem.W.nsIn K mainGlobals "_law_urn" = some (some (.ref f__law_urn))) (l__law_urn : K.lookup f__law_urn = some ⟨oc__law_urn, od__law_urn, .func (PySem.W.fnOf "_law_urn" "_law_urn" (defArgs s__law_urn) (defBody s__law_urn) (defScope s__law_urn) .none kV__law_urn dc__law_urn pm__law_urn an__law_urn cd__law_urn ct__law_urn), sl__law_urn⟩) (c__law_urn : PySem.W.codeIn K cd__law_urn "_law_urn" = true) (k__law_urn : PySem.W.keepIn K (.ref f__law_urn) = true)
    (a__law_pull : PySem.W.nsIn K mainGlobals "_law_pull" = some (some (.ref f__law_pull))) (l__law_pull : K.lookup f__law_pull = some ⟨oc__law_pull, od__law_pull, .func (PySem.W.fnOf "_law_pull" "_law_pull" (defArgs s__law_pull) (defBody s__law_pull) (defScope s__law_pull) .none kV__law_pull dc__law_pull pm__law_pull an__law_pull cd__law_pull ct__law_pull), sl__law_pull⟩) (c__law_pull : PySem.W.codeIn K cd__law_pull "_law_pull" = true) (k__law_pull : PySem.W.keepIn K (.ref f__law_pull) = true)
    (a__law_any : PySem.W.nsIn K mainGlobals "_law_any" = some (some (.ref f__law_any))) (l__law_any : K.lookup f__law_any = some ⟨oc__law_any, od__law_any, .func (PySem.W.fnOf "_law_any" "_law_any" (defArgs s__law_any) (defBody s__law_any) (defScope s__law_any) .none kV__law_any dc__law_any pm__law_any an__law_any cd__law_any ct__law_any), sl__law_any⟩) (c__law_any : PySem.W.codeIn K cd__law_any "_law_any" = true) (k__law_any : PySem.W.keepIn K (.ref f__law_any) = true)
    (a__law_gcd : PySem.W.nsIn K mainGlobals "_law_gcd" = some (some (.ref f__law_gcd))) (l__law_gcd : K.lookup f__law_gcd = some ⟨oc__law_gcd, od__law_gcd, .func (PySem.W.fnOf "_law_gcd" "_law_gcd" (defArgs s__law_gcd) (defBody s__law_gcd) (defScope s__law_gcd) .none kV__law_gcd dc__law_gcd pm__law_gcd an__law_gcd cd__law_gcd ct__law_gcd), sl__law_gcd⟩) (c__law_gcd : PySem.W.codeIn K cd__law_gcd "_law_gcd" = true) (k__law_gcd : PySem.W.keepIn K (.ref f__law_gcd) = true)
    (a__law_number : PySem.W.nsIn K mainGlobals "_law_number" = some (some (.ref f__law_number))) (l__law_number : K.lookup f__law_number = some ⟨oc__law_number, od__law_number, .func (PySem.W.fnOf "_law_number" "_law_number" (defArgs s__law_number) (defBody s__law_number) (defScope s__law_number) .none kV__law_number dc__law_number pm__law_number an__law_number cd__law_number ct__law_number), sl__law_number⟩) (c__law_number : PySem.W.codeIn K cd__law_number "_law_number" = true) (k__law_number : PySem.W.keepIn K (.ref f__law_number) = true)
    (a__law_drawn : PySem.W.nsIn K mainGlobals "_law_drawn" = some (some (.ref f__law_drawn))) (l__law_drawn : K.lookup f__law_drawn = some ⟨oc__law_drawn, od__law_drawn, .func (PySem.W.fnOf "_law_drawn" "_law_drawn" (defArgs s__law_drawn) (defBody s__law_drawn) (defScope s__law_drawn) .none kV__law_drawn dc__law_drawn pm__law_drawn an__law_drawn cd__law_drawn ct__law_drawn), sl__law_drawn⟩) (c__law_drawn : PySem.W.codeIn K cd__law_drawn "_law_drawn" = true) (k__law_drawn : PySem.W.keepIn K (.ref f__law_drawn) = true)
    (a__law_ground : PySem.W.nsIn K mainGlobals "_law_ground" = some (some (.ref f__law_ground))) (l__law_ground : K.lookup f__law_ground = some ⟨oc__law_ground, od__law_ground, .func (PySem.W.fnOf "_law_ground" "_law_ground" (defArgs s__law_ground) (defBody s__law_ground) (defScope s__law_ground) .none kV__law_ground dc__law_ground pm__law_ground an__law_ground cd__law_ground ct__law_ground), sl__law_ground⟩) (c__law_ground : PySem.W.codeIn K cd__law_ground "_law_ground" = true) (k__law_ground : PySem.W.keepIn K (.ref f__law_ground) = true)
    (a__law_sides : PySem.W.nsIn K mainGlobals "_law_sides" = some (some (.ref f__law_sides))) (l__law_sides : K.lookup f__law_sides = some ⟨oc__law_sides, od__law_sides, .func (PySem.W.fnOf "_law_sides" "_law_sides" (defArgs s__law_sides) (defBody s__law_sides) (defScope s__law_sides) .none kV__law_sides dc__law_sides pm__law_sides an__law_sides cd__law_sides ct__law_sides), sl__law_sides⟩) (c__law_sides : PySem.W.codeIn K cd__law_sides "_law_sides" = true) (k__law_sides : PySem.W.keepIn K (.ref f__law_sides) = true)
    (a__law_leaf : PySem.W.nsIn K mainGlobals "_law_leaf" = some (some (.ref f__law_leaf))) (l__law_leaf : K.lookup f__law_leaf = some ⟨oc__law_leaf, od__law_leaf, .func (PySem.W.fnOf "_law_leaf" "_law_leaf" (defArgs s__law_leaf) (defBody s__law_leaf) (defScope s__law_leaf) .none kV__law_leaf dc__law_leaf pm__law_leaf an__law_leaf cd__law_leaf ct__law_leaf), sl__law_leaf⟩) (c__law_leaf : PySem.W.codeIn K cd__law_leaf "_law_leaf" = true) (k__law_leaf : PySem.W.keepIn K (.ref f__law_leaf) = true)
    (a__law_over_one : PySem.W.nsIn K mainGlobals "_law_over_one" = some (some (.ref f__law_over_one))) (l__law_over_one : K.lookup f__law_over_one = some ⟨oc__law_over_one, od__law_over_one, .func (PySem.W.fnOf "_law_over_one" "_law_over_one" (defArgs s__law_over_one) (defBody s__law_over_one) (defScope s__law_over_one) .none kV__law_over_one dc__law_over_one pm__law_over_one an__law_over_one cd__law_over_one ct__law_over_one), sl__law_over_one⟩) (c__law_over_one : PySem.W.codeIn K cd__law_over_one "_law_over_one" = true) (k__law_over_one : PySem.W.keepIn K (.ref f__law_over_one) = true)
    (a__law_over_two : PySem.W.nsIn K mainGlobals "_law_over_two" = some (some (.ref f__law_over_two))) (l__law_over_two : K.lookup f__law_over_two = some ⟨oc__law_over_two, od__law_over_two, .func (PySem.W.fnOf "_law_over_two" "_law_over_two" (defArgs s__law_over_two) (defBody s__law_over_two) (defScope s__law_over_two) .none kV__law_over_two dc__law_over_two pm__law_over_two an__law_over_two cd__law_over_two ct__law_over_two), sl__law_over_two⟩) (c__law_over_two : PySem.W.codeIn K cd__law_over_two "_law_over_two" = true) (k__law_over_two : PySem.W.keepIn K (.ref f__law_over_two) = true)
    (a__law_term : PySem.W.nsIn K mainGlobals "_law_term" = some (some (.ref f__law_term))) (l__law_term : K.lookup f__law_term = some ⟨oc__law_term, od__law_term, .func (PySem.W.fnOf "_law_term" "_law_term" (defArgs s__law_term) (defBody s__law_term) (defScope s__law_term) .none kV__law_term dc__law_term pm__law_term an__law_term cd__law_term ct__law_term), sl__law_term⟩) (c__law_term : PySem.W.codeIn K cd__law_term "_law_term" = true) (k__law_term : PySem.W.keepIn K (.ref f__law_term) = true)
    (a__law_number_text : PySem.W.nsIn K mainGlobals "_law_number_text" = some (some (.ref f__law_number_text))) (l__law_number_text : K.lookup f__law_number_text = some ⟨oc__law_number_text, od__law_number_text, .func (PySem.W.fnOf "_law_number_text" "_law_number_text" (defArgs s__law_number_text) (defBody s__law_number_text) (defScope s__law_number_text) .none kV__law_number_text dc__law_number_text pm__law_number_text an__law_number_text cd__law_number_text ct__law_number_text), sl__law_number_text⟩) (c__law_number_text : PySem.W.codeIn K cd__law_number_text "_law_number_text" = true) (k__law_number_text : PySem.W.keepIn K (.ref f__law_number_text) = true)
    (a__law_bound : PySem.W.nsIn K mainGlobals "_law_bound" = some (some (.ref f__law_bound))) (l__law_bound : K.lookup f__law_bound = some ⟨oc__law_bound, od__law_bound, .func (PySem.W.fnOf "_law_bound" "_law_bound" (defArgs s__law_bound) (defBody s__law_bound) (defScope s__law_bound) .none kV__law_bound dc__law_bound pm__law_bound an__law_bound cd__law_bound ct__law_bound), sl__law_bound⟩) (c__law_bound : PySem.W.codeIn K cd__law_bound "_law_bound" = true) (k__law_bound : PySem.W.keepIn K (.ref f__law_bound) = true)
    (a__law_in : PySem.W.nsIn K mainGlobals "_law_in" = some (some (.ref f__law_in))) (l__law_in : K.lookup f__law_in = some ⟨oc__law_in, od__law_in, .func (PySem.W.fnOf "_law_in" "_law_in" (defArgs s__law_in) (defBody s__law_in) (defScope s__law_in) .none kV__law_in dc__law_in pm__law_in an__law_in cd__law_in ct__law_in), sl__law_in⟩) (c__law_in : PySem.W.codeIn K cd__law_in "_law_in" = true) (k__law_in : PySem.W.keepIn K (.ref f__law_in) = true)
    (a__law_text : PySem.W.nsIn K mainGlobals "_law_text" = some (some (.ref f__law_text))) (l__law_text : K.lookup f__law_text = some ⟨oc__law_text, od__law_text, .func (PySem.W.fnOf "_law_text" "_law_text" (defArgs s__law_text) (defBody s__law_text) (defScope s__law_text) .none kV__law_text dc__law_text pm__law_text an__law_text cd__law_text ct__law_text), sl__law_text⟩) (c__law_text : PySem.W.codeIn K cd__law_text "_law_text" = true) (k__law_text : PySem.W.keepIn K (.ref f__law_text) = true)
    (a__law_great : PySem.W.nsIn K mainGlobals "_law_great" = some (some (.ref f__law_great))) (l__law_great : K.lookup f__law_great = some ⟨oc__law_great, od__law_great, .func (PySem.W.fnOf "_law_great" "_law_great" (defArgs s__law_great) (defBody s__law_great) (defScope s__law_great) .none kV__law_great dc__law_great pm__law_great an__law_great cd__law_great ct__law_great), sl__law_great⟩) (c__law_great : PySem.W.codeIn K cd__law_great "_law_great" = true) (k__law_great : PySem.W.keepIn K (.ref f__law_great) = true)
    (a_law : PySem.W.nsIn K mainGlobals "law" = some (some (.ref f_law))) (l_law : K.lookup f_law = some ⟨oc_law, od_law, .func (PySem.W.fnOf "law" "law" (defArgs s_law) (defBody s_law) (defScope s_law) .none kV_law dc_law pm_law an_law cd_law ct_law), sl_law⟩) (c_law : PySem.W.codeIn K cd_law "law" = true) (k_law : PySem.W.keepIn K (.ref f_law) = true)
    (z_isinstance : PySem.W.nsIn K mainGlobals "isinstance" = some none)
    (z_int : PySem.W.nsIn K mainGlobals "int" = some none)
    (z_bool : PySem.W.nsIn K mainGlobals "bool" = some none)
    (z_tuple : PySem.W.nsIn K mainGlobals "tuple" = some none)
    (z_len : PySem.W.nsIn K mainGlobals "len" = some none)
    (z_abs : PySem.W.nsIn K mainGlobals "abs" = some none)
    (z_str : PySem.W.nsIn K mainGlobals "str" = some none)
    (z_list : PySem.W.nsIn K mainGlobals "list" = some none)
    (z_min : PySem.W.nsIn K mainGlobals "min" = some none)
    (z_range : PySem.W.nsIn K mainGlobals "range" = some none)
    (z_max : PySem.W.nsIn K mainGlobals "max" = some none)
    (e_PRIMES : PySem.W.nsIn K mainGlobals "PRIMES" = some (some (.ref ad_PRIMES)))
    (l_PRIMES : K.lookup ad_PRIMES = some ⟨.type "tuple", dd_PRIMES, .seq its_PRIMES n_PRIMES, sl_PRIMES⟩) (s_PRIMES : its_PRIMES.size ≤ sizeLine) (v_PRIMES : Vals [.int 2, .int 3, .int 5, .int 7, .int 11, .int 13, .int 17, .int 19, .int 23, .int 29, .int 31, .int 37, .int 41, .int 43, .int 47, .int 53, .int 59, .int 61, .int 67, .int 71, .int 73, .int 79, .int 83, .int 89, .int 97] its_PRIMES.toList)
    (e_OVER : PySem.W.nsIn K mainGlobals "OVER" = some (some u_OVER)) (r_OVER : RelV (.str "/") u_OVER)
    (e_SIDES : PySem.W.nsIn K mainGlobals "SIDES" = some (some (.ref ad_SIDES))) (l_SIDES : K.lookup ad_SIDES = some ⟨.type "dict", none, .dict es_SIDES n_SIDES, #[]⟩) (k_SIDES : PySem.W.KeysLit w.params es_SIDES.toList) (o_SIDES : (ad_SIDES == sysModules) = false)
    (e_SIDES_0 : PySem.W.nsIn K ad_SIDES "wire" = some (some (.ref ad_SIDES_0)))
    (l_SIDES_0 : K.lookup ad_SIDES_0 = some ⟨.type "tuple", dd_SIDES_0, .seq its_SIDES_0 n_SIDES_0, sl_SIDES_0⟩) (s_SIDES_0 : its_SIDES_0.size ≤ sizeLine) (v_SIDES_0 : Vals [.int 1, .int 1] its_SIDES_0.toList)
    (e_SIDES_1 : PySem.W.nsIn K ad_SIDES "cross" = some (some (.ref ad_SIDES_1)))
    (l_SIDES_1 : K.lookup ad_SIDES_1 = some ⟨.type "tuple", dd_SIDES_1, .seq its_SIDES_1 n_SIDES_1, sl_SIDES_1⟩) (s_SIDES_1 : its_SIDES_1.size ≤ sizeLine) (v_SIDES_1 : Vals [.int 2, .int 2] its_SIDES_1.toList)
    (e_SIDES_2 : PySem.W.nsIn K ad_SIDES "copy" = some (some (.ref ad_SIDES_2)))
    (l_SIDES_2 : K.lookup ad_SIDES_2 = some ⟨.type "tuple", dd_SIDES_2, .seq its_SIDES_2 n_SIDES_2, sl_SIDES_2⟩) (s_SIDES_2 : its_SIDES_2.size ≤ sizeLine) (v_SIDES_2 : Vals [.int 1, .int 2] its_SIDES_2.toList)
    (e_SIDES_3 : PySem.W.nsIn K ad_SIDES "drop" = some (some (.ref ad_SIDES_3)))
    (l_SIDES_3 : K.lookup ad_SIDES_3 = some ⟨.type "tuple", dd_SIDES_3, .seq its_SIDES_3 n_SIDES_3, sl_SIDES_3⟩) (s_SIDES_3 : its_SIDES_3.size ≤ sizeLine) (v_SIDES_3 : Vals [.int 1, .int 0] its_SIDES_3.toList)
    (e_SIDES_4 : PySem.W.nsIn K ad_SIDES "add" = some (some (.ref ad_SIDES_4)))
    (l_SIDES_4 : K.lookup ad_SIDES_4 = some ⟨.type "tuple", dd_SIDES_4, .seq its_SIDES_4 n_SIDES_4, sl_SIDES_4⟩) (s_SIDES_4 : its_SIDES_4.size ≤ sizeLine) (v_SIDES_4 : Vals [.int 2, .int 1] its_SIDES_4.toList)
    (e_SIDES_5 : PySem.W.nsIn K ad_SIDES "nought" = some (some (.ref ad_SIDES_5)))
    (l_SIDES_5 : K.lookup ad_SIDES_5 = some ⟨.type "tuple", dd_SIDES_5, .seq its_SIDES_5 n_SIDES_5, sl_SIDES_5⟩) (s_SIDES_5 : its_SIDES_5.size ≤ sizeLine) (v_SIDES_5 : Vals [.int 0, .int 1] its_SIDES_5.toList)
    (e_SIDES_6 : PySem.W.nsIn K ad_SIDES "later" = some (some (.ref ad_SIDES_6)))
    (l_SIDES_6 : K.lookup ad_SIDES_6 = some ⟨.type "tuple", dd_SIDES_6, .seq its_SIDES_6 n_SIDES_6, sl_SIDES_6⟩) (s_SIDES_6 : its_SIDES_6.size ≤ sizeLine) (v_SIDES_6 : Vals [.int 1, .int 1] its_SIDES_6.toList)
    (e_JOINTS : PySem.W.nsIn K mainGlobals "JOINTS" = some (some (.ref ad_JOINTS))) (l_JOINTS : K.lookup ad_JOINTS = some ⟨.type "dict", none, .dict es_JOINTS n_JOINTS, #[]⟩) (k_JOINTS : PySem.W.KeysLit w.params es_JOINTS.toList) (o_JOINTS : (ad_JOINTS == sysModules) = false)
    (e_JOINTS_0 : PySem.W.nsIn K ad_JOINTS "turned" = some (some u_JOINTS_0)) (r_JOINTS_0 : RelV (.int 2) u_JOINTS_0)
    (e_JOINTS_1 : PySem.W.nsIn K ad_JOINTS "then" = some (some u_JOINTS_1)) (r_JOINTS_1 : RelV (.int 3) u_JOINTS_1)
    (e_JOINTS_2 : PySem.W.nsIn K ad_JOINTS "beside" = some (some u_JOINTS_2)) (r_JOINTS_2 : RelV (.int 3) u_JOINTS_2)
    (e_JOINTS_3 : PySem.W.nsIn K ad_JOINTS "loop" = some (some u_JOINTS_3)) (r_JOINTS_3 : RelV (.int 2) u_JOINTS_3)
    (e_MOST_PARTS : PySem.W.nsIn K mainGlobals "MOST_PARTS" = some (some u_MOST_PARTS)) (r_MOST_PARTS : RelV (.int 80) u_MOST_PARTS)
    (e_MOST_DEEP : PySem.W.nsIn K mainGlobals "MOST_DEEP" = some (some u_MOST_DEEP)) (r_MOST_DEEP : RelV (.int 30) u_MOST_DEEP)
    (e_TIGHT : PySem.W.nsIn K mainGlobals "TIGHT" = some (some u_TIGHT)) (r_TIGHT : RelV (.int 2) u_TIGHT)
    (e_LOOSE : PySem.W.nsIn K mainGlobals "LOOSE" = some (some u_LOOSE)) (r_LOOSE : RelV (.int 0) u_LOOSE)
    (e_MIDDLE : PySem.W.nsIn K mainGlobals "MIDDLE" = some (some u_MIDDLE)) (r_MIDDLE : RelV (.int 1) u_MIDDLE)
    (e_THEN : PySem.W.nsIn K mainGlobals "THEN" = some (some u_THEN)) (r_THEN : RelV (.str "then") u_THEN)
    (e_BESIDE : PySem.W.nsIn K mainGlobals "BESIDE" = some (some u_BESIDE)) (r_BESIDE : RelV (.str "beside") u_BESIDE)
    (e_TIMES : PySem.W.nsIn K mainGlobals "TIMES" = some (some u_TIMES)) (r_TIMES : RelV (.str "times") u_TIMES)
    (e_TURNED : PySem.W.nsIn K mainGlobals "TURNED" = some (some u_TURNED)) (r_TURNED : RelV (.str "turned") u_TURNED)
    (e_LOOP : PySem.W.nsIn K mainGlobals "LOOP" = some (some u_LOOP)) (r_LOOP : RelV (.str "loop") u_LOOP)
    (e_BLANK : PySem.W.nsIn K mainGlobals "BLANK" = some (some u_BLANK)) (r_BLANK : RelV (.str " ") u_BLANK) : Tp w K mg where
  d_is_integer := ⟨f_is_integer, _, fun_mk (st := s_is_integer) l_is_integer c_is_integer k_is_integer, (fun_mk (st := s_is_integer) l_is_integer c_is_integer k_is_integer).binds (ps := ["thing"]) fun _ _ _ _ _ _ us hl => match us, hl with | [_], _ => rfl, PySem.W.mg_of X G a_is_integer⟩
  d_is_within := ⟨f_is_within, _, fun_mk (st := s_is_within) l_is_within c_is_within k_is_within, (fun_mk (st := s_is_within) l_is_within c_is_within k_is_within).binds (ps := ["thing", "least", "most"]) fun _ _ _ _ _ _ us hl => match us, hl with | [_, _, _], _ => rfl, PySem.W.mg_of X G a_is_within⟩
  d_is_pair := ⟨f_is_pair, _, fun_mk (st := s_is_pair) l_is_pair c_is_pair k_is_pair, (fun_mk (st := s_is_pair) l_is_pair c_is_pair k_is_pair).binds (ps := ["thing"]) fun _ _ _ _ _ _ us hl => match us, hl with | [_], _ => rfl, PySem.W.mg_of X G a_is_pair⟩
  d_is_ground := ⟨f_is_ground, _, fun_mk (st := s_is_ground) l_is_ground c_is_ground k_is_ground, (fun_mk (st := s_is_ground) l_is_ground c_is_ground k_is_ground).binds (ps := ["thing"]) fun _ _ _ _ _ _ us hl => match us, hl with | [_], _ => rfl, PySem.W.mg_of X G a_is_ground⟩
  d_check_ground := ⟨f_check_ground, _, fun_mk (st := s_check_ground) l_check_ground c_check_ground k_check_ground, (fun_mk (st := s_check_ground) l_check_ground c_check_ground k_check_ground).binds (ps := ["thing"]) fun _ _ _ _ _ _ us hl => match us, hl with | [_], _ => rfl, PySem.W.mg_of X G a_check_ground⟩
  d_divisor := ⟨f_divisor, _, fun_mk (st := s_divisor) l_divisor c_divisor k_divisor, (fun_mk (st := s_divisor) l_divisor c_divisor k_divisor).binds (ps := ["one", "other"]) fun _ _ _ _ _ _ us hl => match us, hl with | [_, _], _ => rfl, PySem.W.mg_of X G a_divisor⟩
  d_is_num := ⟨f_is_num, _, fun_mk (st := s_is_num) l_is_num c_is_num k_is_num, (fun_mk (st := s_is_num) l_is_num c_is_num k_is_num).binds (ps := ["ground", "thing"]) fun _ _ _ _ _ _ us hl => match us, hl with | [_, _], _ => rfl, PySem.W.mg_of X G a_is_num⟩
  d_number_text := ⟨f_number_text, _, fun_mk (st := s_number_text) l_number_text c_number_text k_number_text, (fun_mk (st := s_number_text) l_number_text c_number_text k_number_text).binds (ps := ["number"]) fun _ _ _ _ _ _ us hl => match us, hl with | [_], _ => rfl, PySem.W.mg_of X G a_number_text⟩
  d_inner_terms := ⟨f_inner_terms, _, fun_mk (st := s_inner_terms) l_inner_terms c_inner_terms k_inner_terms, (fun_mk (st := s_inner_terms) l_inner_terms c_inner_terms k_inner_terms).binds (ps := ["term"]) fun _ _ _ _ _ _ us hl => match us, hl with | [_], _ => rfl, PySem.W.mg_of X G a_inner_terms⟩
  d_is_shaped := ⟨f_is_shaped, _, fun_mk (st := s_is_shaped) l_is_shaped c_is_shaped k_is_shaped, (fun_mk (st := s_is_shaped) l_is_shaped c_is_shaped k_is_shaped).binds (ps := ["ground", "term"]) fun _ _ _ _ _ _ us hl => match us, hl with | [_, _], _ => rfl, PySem.W.mg_of X G a_is_shaped⟩
  d_is_bounded := ⟨f_is_bounded, _, fun_mk (st := s_is_bounded) l_is_bounded c_is_bounded k_is_bounded, (fun_mk (st := s_is_bounded) l_is_bounded c_is_bounded k_is_bounded).binds (ps := ["ground", "thing"]) fun _ _ _ _ _ _ us hl => match us, hl with | [_, _], _ => rfl, PySem.W.mg_of X G a_is_bounded⟩
  d_joint_sides := ⟨f_joint_sides, _, fun_mk (st := s_joint_sides) l_joint_sides c_joint_sides k_joint_sides, (fun_mk (st := s_joint_sides) l_joint_sides c_joint_sides k_joint_sides).binds (ps := ["word", "some"]) fun _ _ _ _ _ _ us hl => match us, hl with | [_, _], _ => rfl, PySem.W.mg_of X G a_joint_sides⟩
  d_sides_of := ⟨f_sides_of, _, fun_mk (st := s_sides_of) l_sides_of c_sides_of k_sides_of, (fun_mk (st := s_sides_of) l_sides_of c_sides_of k_sides_of).binds (ps := ["term"]) fun _ _ _ _ _ _ us hl => match us, hl with | [_], _ => rfl, PySem.W.mg_of X G a_sides_of⟩
  d_is_term_of := ⟨f_is_term_of, _, fun_mk (st := s_is_term_of) l_is_term_of c_is_term_of k_is_term_of, (fun_mk (st := s_is_term_of) l_is_term_of c_is_term_of k_is_term_of).binds (ps := ["ground", "thing"]) fun _ _ _ _ _ _ us hl => match us, hl with | [_, _], _ => rfl, PySem.W.mg_of X G a_is_term_of⟩
  d_is_term := ⟨f_is_term, _, fun_mk (st := s_is_term) l_is_term c_is_term k_is_term, (fun_mk (st := s_is_term) l_is_term c_is_term k_is_term).binds (ps := ["ground", "thing"]) fun _ _ _ _ _ _ us hl => match us, hl with | [_, _], _ => rfl, PySem.W.mg_of X G a_is_term⟩
  d_bound_of := ⟨f_bound_of, _, fun_mk (st := s_bound_of) l_bound_of c_bound_of k_bound_of, (fun_mk (st := s_bound_of) l_bound_of c_bound_of k_bound_of).binds (ps := ["term"]) fun _ _ _ _ _ _ us hl => match us, hl with | [_], _ => rfl, PySem.W.mg_of X G a_bound_of⟩
  d_text_within := ⟨f_text_within, _, fun_mk (st := s_text_within) l_text_within c_text_within k_text_within, (fun_mk (st := s_text_within) l_text_within c_text_within k_text_within).binds (ps := ["term", "least"]) fun _ _ _ _ _ _ us hl => match us, hl with | [_, _], _ => rfl, PySem.W.mg_of X G a_text_within⟩
  d_text_of := ⟨f_text_of, _, fun_mk (st := s_text_of) l_text_of c_text_of k_text_of, (fun_mk (st := s_text_of) l_text_of c_text_of k_text_of).binds (ps := ["term"]) fun _ _ _ _ _ _ us hl => match us, hl with | [_], _ => rfl, PySem.W.mg_of X G a_text_of⟩
  d_term_text := ⟨f_term_text, _, fun_mk (st := s_term_text) l_term_text c_term_text k_term_text, (fun_mk (st := s_term_text) l_term_text c_term_text k_term_text).binds (ps := ["ground", "term"]) fun _ _ _ _ _ _ us hl => match us, hl with | [_, _], _ => rfl, PySem.W.mg_of X G a_term_text⟩
  d__law_urn := ⟨f__law_urn, _, fun_mk (st := s__law_urn) l__law_urn c__law_urn k__law_urn, (fun_mk (st := s__law_urn) l__law_urn c__law_urn k__law_urn).binds (ps := ["script"]) fun _ _ _ _ _ _ us hl => match us, hl with | [_], _ => rfl, PySem.W.mg_of X G a__law_urn⟩
  d__law_pull := ⟨f__law_pull, _, fun_mk (st := s__law_pull) l__law_pull c__law_pull k__law_pull, (fun_mk (st := s__law_pull) l__law_pull c__law_pull k__law_pull).binds (ps := ["urn", "many"]) fun _ _ _ _ _ _ us hl => match us, hl with | [_, _], _ => rfl, PySem.W.mg_of X G a__law_pull⟩
  d__law_any := ⟨f__law_any, _, fun_mk (st := s__law_any) l__law_any c__law_any k__law_any, (fun_mk (st := s__law_any) l__law_any c__law_any k__law_any).binds (ps := ["urn", "things"]) fun _ _ _ _ _ _ us hl => match us, hl with | [_, _], _ => rfl, PySem.W.mg_of X G a__law_any⟩
  d__law_gcd := ⟨f__law_gcd, _, fun_mk (st := s__law_gcd) l__law_gcd c__law_gcd k__law_gcd, (fun_mk (st := s__law_gcd) l__law_gcd c__law_gcd k__law_gcd).binds (ps := ["one", "other"]) fun _ _ _ _ _ _ us hl => match us, hl with | [_, _], _ => rfl, PySem.W.mg_of X G a__law_gcd⟩
  d__law_number := ⟨f__law_number, _, fun_mk (st := s__law_number) l__law_number c__law_number k__law_number, (fun_mk (st := s__law_number) l__law_number c__law_number k__law_number).binds (ps := ["ground", "top", "bottom"]) fun _ _ _ _ _ _ us hl => match us, hl with | [_, _, _], _ => rfl, PySem.W.mg_of X G a__law_number⟩
  d__law_drawn := ⟨f__law_drawn, _, fun_mk (st := s__law_drawn) l__law_drawn c__law_drawn k__law_drawn, (fun_mk (st := s__law_drawn) l__law_drawn c__law_drawn k__law_drawn).binds (ps := ["urn", "ground"]) fun _ _ _ _ _ _ us hl => match us, hl with | [_, _], _ => rfl, PySem.W.mg_of X G a__law_drawn⟩
  d__law_ground := ⟨f__law_ground, _, fun_mk (st := s__law_ground) l__law_ground c__law_ground k__law_ground, (fun_mk (st := s__law_ground) l__law_ground c__law_ground k__law_ground).binds (ps := ["urn"]) fun _ _ _ _ _ _ us hl => match us, hl with | [_], _ => rfl, PySem.W.mg_of X G a__law_ground⟩
  d__law_sides := ⟨f__law_sides, _, fun_mk (st := s__law_sides) l__law_sides c__law_sides k__law_sides, (fun_mk (st := s__law_sides) l__law_sides c__law_sides k__law_sides).binds (ps := ["word"]) fun _ _ _ _ _ _ us hl => match us, hl with | [_], _ => rfl, PySem.W.mg_of X G a__law_sides⟩
  d__law_leaf := ⟨f__law_leaf, _, fun_mk (st := s__law_leaf) l__law_leaf c__law_leaf k__law_leaf, (fun_mk (st := s__law_leaf) l__law_leaf c__law_leaf k__law_leaf).binds (ps := ["urn", "ground"]) fun _ _ _ _ _ _ us hl => match us, hl with | [_, _], _ => rfl, PySem.W.mg_of X G a__law_leaf⟩
  d__law_over_one := ⟨f__law_over_one, _, fun_mk (st := s__law_over_one) l__law_over_one c__law_over_one k__law_over_one, (fun_mk (st := s__law_over_one) l__law_over_one c__law_over_one k__law_over_one).binds (ps := ["urn", "one"]) fun _ _ _ _ _ _ us hl => match us, hl with | [_, _], _ => rfl, PySem.W.mg_of X G a__law_over_one⟩
  d__law_over_two := ⟨f__law_over_two, _, fun_mk (st := s__law_over_two) l__law_over_two c__law_over_two k__law_over_two, (fun_mk (st := s__law_over_two) l__law_over_two c__law_over_two k__law_over_two).binds (ps := ["urn", "one", "other"]) fun _ _ _ _ _ _ us hl => match us, hl with | [_, _, _], _ => rfl, PySem.W.mg_of X G a__law_over_two⟩
  d__law_term := ⟨f__law_term, _, fun_mk (st := s__law_term) l__law_term c__law_term k__law_term, (fun_mk (st := s__law_term) l__law_term c__law_term k__law_term).binds (ps := ["urn", "ground", "most"]) fun _ _ _ _ _ _ us hl => match us, hl with | [_, _, _], _ => rfl, PySem.W.mg_of X G a__law_term⟩
  d__law_number_text := ⟨f__law_number_text, _, fun_mk (st := s__law_number_text) l__law_number_text c__law_number_text k__law_number_text, (fun_mk (st := s__law_number_text) l__law_number_text c__law_number_text k__law_number_text).binds (ps := ["number"]) fun _ _ _ _ _ _ us hl => match us, hl with | [_], _ => rfl, PySem.W.mg_of X G a__law_number_text⟩
  d__law_bound := ⟨f__law_bound, _, fun_mk (st := s__law_bound) l__law_bound c__law_bound k__law_bound, (fun_mk (st := s__law_bound) l__law_bound c__law_bound k__law_bound).binds (ps := ["term"]) fun _ _ _ _ _ _ us hl => match us, hl with | [_], _ => rfl, PySem.W.mg_of X G a__law_bound⟩
  d__law_in := ⟨f__law_in, _, fun_mk (st := s__law_in) l__law_in c__law_in k__law_in, (fun_mk (st := s__law_in) l__law_in c__law_in k__law_in).binds (ps := ["term", "least"]) fun _ _ _ _ _ _ us hl => match us, hl with | [_, _], _ => rfl, PySem.W.mg_of X G a__law_in⟩
  d__law_text := ⟨f__law_text, _, fun_mk (st := s__law_text) l__law_text c__law_text k__law_text, (fun_mk (st := s__law_text) l__law_text c__law_text k__law_text).binds (ps := ["term"]) fun _ _ _ _ _ _ us hl => match us, hl with | [_], _ => rfl, PySem.W.mg_of X G a__law_text⟩
  d__law_great := ⟨f__law_great, _, fun_mk (st := s__law_great) l__law_great c__law_great k__law_great, (fun_mk (st := s__law_great) l__law_great c__law_great k__law_great).binds (ps := ["urn", "term"]) fun _ _ _ _ _ _ us hl => match us, hl with | [_, _], _ => rfl, PySem.W.mg_of X G a__law_great⟩
  d_law := ⟨f_law, _, fun_mk (st := s_law) l_law c_law k_law, (fun_mk (st := s_law) l_law c_law k_law).binds (ps := ["script"]) fun _ _ _ _ _ _ us hl => match us, hl with | [_], _ => rfl, PySem.W.mg_of X G a_law⟩
  z_isinstance := PySem.W.mg_none_of X G z_isinstance
  z_int := PySem.W.mg_none_of X G z_int
  z_bool := PySem.W.mg_none_of X G z_bool
  z_tuple := PySem.W.mg_none_of X G z_tuple
  z_len := PySem.W.mg_none_of X G z_len
  z_abs := PySem.W.mg_none_of X G z_abs
  z_str := PySem.W.mg_none_of X G z_str
  z_list := PySem.W.mg_none_of X G z_list
  z_min := PySem.W.mg_none_of X G z_min
  z_range := PySem.W.mg_none_of X G z_range
  z_max := PySem.W.mg_none_of X G z_max
  g_PRIMES := ⟨ad_PRIMES, ⟨_, PySem.W.mg_of X G e_PRIMES, rfl⟩, fun G => Dp.tup (.inr ⟨_, its_PRIMES, n_PRIMES, l_PRIMES, rfl, rfl, s_PRIMES, v_PRIMES⟩) (DpAll.cons (Dp.int _) (DpAll.cons (Dp.int _) (DpAll.cons (Dp.int _) (DpAll.cons (Dp.int _) (DpAll.cons (Dp.int _) (DpAll.cons (Dp.int _) (DpAll.cons (Dp.int _) (DpAll.cons (Dp.int _) (DpAll.cons (Dp.int _) (DpAll.cons (Dp.int _) (DpAll.cons (Dp.int _) (DpAll.cons (Dp.int _) (DpAll.cons (Dp.int _) (DpAll.cons (Dp.int _) (DpAll.cons (Dp.int _) (DpAll.cons (Dp.int _) (DpAll.cons (Dp.int _) (DpAll.cons (Dp.int _) (DpAll.cons (Dp.int _) (DpAll.cons (Dp.int _) (DpAll.cons (Dp.int _) (DpAll.cons (Dp.int _) (DpAll.cons (Dp.int _) (DpAll.cons (Dp.int _) (DpAll.cons (Dp.int _) (DpAll.nil))))))))))))))))))))))))))⟩
  g_OVER := ⟨u_OVER, PySem.W.mg_of X G e_OVER, r_OVER⟩
  g_SIDES := ⟨ad_SIDES, ⟨_, PySem.W.mg_of X G e_SIDES, rfl⟩, ⟨⟨es_SIDES, n_SIDES, ⟨l_SIDES, k_SIDES, o_SIDES⟩⟩, lookup_all (fun z d => ∃ u v, PySem.W.nsIn K ad_SIDES z = some (some u) ∧ RelV v u ∧ ∀ G, Dp K G v d) (List.forall_mem_cons.mpr ⟨⟨_, .ref ad_SIDES_0, e_SIDES_0, rfl, fun G => Dp.tup (.inr ⟨_, its_SIDES_0, n_SIDES_0, l_SIDES_0, rfl, rfl, s_SIDES_0, v_SIDES_0⟩) (DpAll.cons (Dp.int _) (DpAll.cons (Dp.int _) (DpAll.nil)))⟩, (List.forall_mem_cons.mpr ⟨⟨_, .ref ad_SIDES_1, e_SIDES_1, rfl, fun G => Dp.tup (.inr ⟨_, its_SIDES_1, n_SIDES_1, l_SIDES_1, rfl, rfl, s_SIDES_1, v_SIDES_1⟩) (DpAll.cons (Dp.int _) (DpAll.cons (Dp.int _) (DpAll.nil)))⟩, (List.forall_mem_cons.mpr ⟨⟨_, .ref ad_SIDES_2, e_SIDES_2, rfl, fun G => Dp.tup (.inr ⟨_, its_SIDES_2, n_SIDES_2, l_SIDES_2, rfl, rfl, s_SIDES_2, v_SIDES_2⟩) (DpAll.cons (Dp.int _) (DpAll.cons (Dp.int _) (DpAll.nil)))⟩, (List.forall_mem_cons.mpr ⟨⟨_, .ref ad_SIDES_3, e_SIDES_3, rfl, fun G => Dp.tup (.inr ⟨_, its_SIDES_3, n_SIDES_3, l_SIDES_3, rfl, rfl, s_SIDES_3, v_SIDES_3⟩) (DpAll.cons (Dp.int _) (DpAll.cons (Dp.int _) (DpAll.nil)))⟩, (List.forall_mem_cons.mpr ⟨⟨_, .ref ad_SIDES_4, e_SIDES_4, rfl, fun G => Dp.tup (.inr ⟨_, its_SIDES_4, n_SIDES_4, l_SIDES_4, rfl, rfl, s_SIDES_4, v_SIDES_4⟩) (DpAll.cons (Dp.int _) (DpAll.cons (Dp.int _) (DpAll.nil)))⟩, (List.forall_mem_cons.mpr ⟨⟨_, .ref ad_SIDES_5, e_SIDES_5, rfl, fun G => Dp.tup (.inr ⟨_, its_SIDES_5, n_SIDES_5, l_SIDES_5, rfl, rfl, s_SIDES_5, v_SIDES_5⟩) (DpAll.cons (Dp.int _) (DpAll.cons (Dp.int _) (DpAll.nil)))⟩, (List.forall_mem_cons.mpr ⟨⟨_, .ref ad_SIDES_6, e_SIDES_6, rfl, fun G => Dp.tup (.inr ⟨_, its_SIDES_6, n_SIDES_6, l_SIDES_6, rfl, rfl, s_SIDES_6, v_SIDES_6⟩) (DpAll.cons (Dp.int _) (DpAll.cons (Dp.int _) (DpAll.nil)))⟩, (fun p hp => nomatch hp)⟩)⟩)⟩)⟩)⟩)⟩)⟩)⟩⟩
  g_JOINTS := ⟨ad_JOINTS, ⟨_, PySem.W.mg_of X G e_JOINTS, rfl⟩, ⟨⟨es_JOINTS, n_JOINTS, ⟨l_JOINTS, k_JOINTS, o_JOINTS⟩⟩, lookup_all (fun z d => ∃ u v, PySem.W.nsIn K ad_JOINTS z = some (some u) ∧ RelV v u ∧ ∀ G, Dp K G v d) (List.forall_mem_cons.mpr ⟨⟨_, _, e_JOINTS_0, r_JOINTS_0, fun G => dp_c rfl⟩, (List.forall_mem_cons.mpr ⟨⟨_, _, e_JOINTS_1, r_JOINTS_1, fun G => dp_c rfl⟩, (List.forall_mem_cons.mpr ⟨⟨_, _, e_JOINTS_2, r_JOINTS_2, fun G => dp_c rfl⟩, (List.forall_mem_cons.mpr ⟨⟨_, _, e_JOINTS_3, r_JOINTS_3, fun G => dp_c rfl⟩, (fun p hp => nomatch hp)⟩)⟩)⟩)⟩)⟩⟩
  g_MOST_PARTS := ⟨u_MOST_PARTS, PySem.W.mg_of X G e_MOST_PARTS, r_MOST_PARTS⟩
  g_MOST_DEEP := ⟨u_MOST_DEEP, PySem.W.mg_of X G e_MOST_DEEP, r_MOST_DEEP⟩
  g_TIGHT := ⟨u_TIGHT, PySem.W.mg_of X G e_TIGHT, r_TIGHT⟩
  g_LOOSE := ⟨u_LOOSE, PySem.W.mg_of X G e_LOOSE, r_LOOSE⟩
  g_MIDDLE := ⟨u_MIDDLE, PySem.W.mg_of X G e_MIDDLE, r_MIDDLE⟩
  g_THEN := ⟨u_THEN, PySem.W.mg_of X G e_THEN, r_THEN⟩
  g_BESIDE := ⟨u_BESIDE, PySem.W.mg_of X G e_BESIDE, r_BESIDE⟩
  g_TIMES := ⟨u_TIMES, PySem.W.mg_of X G e_TIMES, r_TIMES⟩
  g_TURNED := ⟨u_TURNED, PySem.W.mg_of X G e_TURNED, r_TURNED⟩
  g_LOOP := ⟨u_LOOP, PySem.W.mg_of X G e_LOOP, r_LOOP⟩
  g_BLANK := ⟨u_BLANK, PySem.W.mg_of X G e_BLANK, r_BLANK⟩

end K86
open PySem PySem.W PyProof.Rows
set_option maxRecDepth 100000 in
set_option maxHeartbeats 0 in
theorem PySem.Challenge.cw_whicheverend_k86_whole_texts_of_terms_holds : PySem.Challenge.rw_whicheverend_k86_whole_texts_of_terms.Holds := by
  w_on; o_law; k_head; (case hw => w_witness2)
  k_fill
  refine L2.walk_of (l := PySem.Challenge.rw_whicheverend_k86_whole_texts_of_terms) (n := 63) (k := 63) (x := "script") (CX := fun _ => L2.CX0) (sp := fun w => K86.spLaw _) rfl (by decide) rfl ⟨rfl, by decide, by decide⟩ (fun w h Y => PySem.W.kIn_of Y) ?F (fun _ _ a ns hl _ hS => ⟨a, ns, rfl, hS, hl, fun _ => rfl⟩) (fun _ _ _ _ _ h => h)
  case F =>
    intro w mg fa h KX G hmg
    refine K86.fin hmg ?_
    refine' K86.tp_mk KX G ?a_is_integer ?l_is_integer ?c_is_integer ?k_is_integer ?a_is_within ?l_is_within ?c_is_within ?k_is_within ?a_is_pair ?l_is_pair ?c_is_pair ?k_is_pair ?a_is_ground ?l_is_ground ?c_is_ground ?k_is_ground ?a_check_ground ?l_check_ground ?c_check_ground ?k_check_ground ?a_divisor ?l_divisor ?c_divisor ?k_divisor ?a_is_num ?l_is_num ?c_is_num ?k_is_num ?a_number_text ?l_number_text ?c_number_text ?k_number_text ?a_inner_terms ?l_inner_terms ?c_inner_terms ?k_inner_terms ?a_is_shaped ?l_is_shaped ?c_is_shaped ?k_is_shaped ?a_is_bounded ?l_is_bounded ?c_is_bounded ?k_is_bounded ?a_joint_sides ?l_joint_sides ?c_joint_sides ?k_joint_sides ?a_sides_of ?l_sides_of ?c_sides_of ?k_sides_of ?a_is_term_of ?l_is_term_of ?c_is_term_of ?k_is_term_of ?a_is_term ?l_is_term ?c_is_term ?k_is_term ?a_bound_of ?l_bound_of ?c_bound_of ?k_bound_of ?a_text_within ?l_text_within ?c_text_within ?k_text_within ?a_text_of ?l_text_of ?c_text_of ?k_text_of ?a_term_text ?l_term_text ?c_term_text ?k_term_text ?a__law_urn ?l__law_urn ?c__law_urn ?k__law_urn ?a__law_pull ?l__law_pull ?c__law_pull ?k__law_pull ?a__law_any ?l__law_any ?c__law_any ?k__law_any ?a__law_gcd ?l__law_gcd ?c__law_gcd ?k__law_gcd ?a__law_number ?l__law_number ?c__law_number ?k__law_number ?a__law_drawn ?l__law_drawn ?c__law_drawn ?k__law_drawn ?a__law_ground ?l__law_ground ?c__law_ground ?k__law_ground ?a__law_sides ?l__law_sides ?c__law_sides ?k__law_sides ?a__law_leaf ?l__law_leaf ?c__law_leaf ?k__law_leaf ?a__law_over_one ?l__law_over_one ?c__law_over_one ?k__law_over_one ?a__law_over_two ?l__law_over_two ?c__law_over_two ?k__law_over_two ?a__law_term ?l__law_term ?c__law_term ?k__law_term ?a__law_number_text ?l__law_number_text ?c__law_number_text ?k__law_number_text ?a__law_bound ?l__law_bound ?c__law_bound ?k__law_bound ?a__law_in ?l__law_in ?c__law_in ?k__law_in ?a__law_text ?l__law_text ?c__law_text ?k__law_text ?a__law_great ?l__law_great ?c__law_great ?k__law_great ?a_law ?l_law ?c_law ?k_law ?z_isinstance ?z_int ?z_bool ?z_tuple ?z_len ?z_abs ?z_str ?z_list ?z_min ?z_range ?z_max ?e_PRIMES ?l_PRIMES ?s_PRIMES ?v_PRIMES ?e_OVER ?r_OVER ?e_SIDES ?l_SIDES ?k_SIDES ?o_SIDES ?e_SIDES_0 ?l_SIDES_0 ?s_SIDES_0 ?v_SIDES_0 ?e_SIDES_1 ?l_SIDES_1 ?s_SIDES_1 ?v_SIDES_1 ?e_SIDES_2 ?l_SIDES_2 ?s_SIDES_2 ?v_SIDES_2 ?e_SIDES_3 ?l_SIDES_3 ?s_SIDES_3 ?v_SIDES_3 ?e_SIDES_4 ?l_SIDES_4 ?s_SIDES_4 ?v_SIDES_4 ?e_SIDES_5 ?l_SIDES_5 ?s_SIDES_5 ?v_SIDES_5 ?e_SIDES_6 ?l_SIDES_6 ?s_SIDES_6 ?v_SIDES_6 ?e_JOINTS ?l_JOINTS ?k_JOINTS ?o_JOINTS ?e_JOINTS_0 ?r_JOINTS_0 ?e_JOINTS_1 ?r_JOINTS_1 ?e_JOINTS_2 ?r_JOINTS_2 ?e_JOINTS_3 ?r_JOINTS_3 ?e_MOST_PARTS ?r_MOST_PARTS ?e_MOST_DEEP ?r_MOST_DEEP ?e_TIGHT ?r_TIGHT ?e_LOOSE ?r_LOOSE ?e_MIDDLE ?r_MIDDLE ?e_THEN ?r_THEN ?e_BESIDE ?r_BESIDE ?e_TIMES ?r_TIMES ?e_TURNED ?r_TURNED ?e_LOOP ?r_LOOP ?e_BLANK ?r_BLANK
    (case a_is_integer => k_is)
    (case l_is_integer => k_is)
    (case c_is_integer => k_is)
    (case k_is_integer => k_is)
    (case a_is_within => k_is)
    (case l_is_within => k_is)
    (case c_is_within => k_is)
    (case k_is_within => k_is)
    (case a_is_pair => k_is)
    (case l_is_pair => k_is)
    (case c_is_pair => k_is)
    (case k_is_pair => k_is)
    (case a_is_ground => k_is)
    (case l_is_ground => k_is)
    (case c_is_ground => k_is)
    (case k_is_ground => k_is)
    (case a_check_ground => k_is)
    (case l_check_ground => k_is)
    (case c_check_ground => k_is)
    (case k_check_ground => k_is)
    (case a_divisor => k_is)
    (case l_divisor => k_is)
    (case c_divisor => k_is)
    (case k_divisor => k_is)
    (case a_is_num => k_is)
    (case l_is_num => k_is)
    (case c_is_num => k_is)
    (case k_is_num => k_is)
    (case a_number_text => k_is)
    (case l_number_text => k_is)
    (case c_number_text => k_is)
    (case k_number_text => k_is)
    (case a_inner_terms => k_is)
    (case l_inner_terms => k_is)
    (case c_inner_terms => k_is)
    (case k_inner_terms => k_is)
    (case a_is_shaped => k_is)
    (case l_is_shaped => k_is)
    (case c_is_shaped => k_is)
    (case k_is_shaped => k_is)
    (case a_is_bounded => k_is)
    (case l_is_bounded => k_is)
    (case c_is_bounded => k_is)
    (case k_is_bounded => k_is)
    (case a_joint_sides => k_is)
    (case l_joint_sides => k_is)
    (case c_joint_sides => k_is)
    (case k_joint_sides => k_is)
    (case a_sides_of => k_is)
    (case l_sides_of => k_is)
    (case c_sides_of => k_is)
    (case k_sides_of => k_is)
    (case a_is_term_of => k_is)
    (case l_is_term_of => k_is)
    (case c_is_term_of => k_is)
    (case k_is_term_of => k_is)
    (case a_is_term => k_is)
    (case l_is_term => k_is)
    (case c_is_term => k_is)
    (case k_is_term => k_is)
    (case a_bound_of => k_is)
    (case l_bound_of => k_is)
    (case c_bound_of => k_is)
    (case k_bound_of => k_is)
    (case a_text_within => k_is)
    (case l_text_within => k_is)
    (case c_text_within => k_is)
    (case k_text_within => k_is)
    (case a_text_of => k_is)
    (case l_text_of => k_is)
    (case c_text_of => k_is)
    (case k_text_of => k_is)
    (case a_term_text => k_is)
    (case l_term_text => k_is)
    (case c_term_text => k_is)
    (case k_term_text => k_is)
    (case a__law_urn => k_is)
    (case l__law_urn => k_is)
    (case c__law_urn => k_is)
    (case k__law_urn => k_is)
    (case a__law_pull => k_is)
    (case l__law_pull => k_is)
    (case c__law_pull => k_is)
    (case k__law_pull => k_is)
    (case a__law_any => k_is)
    (case l__law_any => k_is)
    (case c__law_any => k_is)
    (case k__law_any => k_is)
    (case a__law_gcd => k_is)
    (case l__law_gcd => k_is)
    (case c__law_gcd => k_is)
    (case k__law_gcd => k_is)
    (case a__law_number => k_is)
    (case l__law_number => k_is)
    (case c__law_number => k_is)
    (case k__law_number => k_is)
    (case a__law_drawn => k_is)
    (case l__law_drawn => k_is)
    (case c__law_drawn => k_is)
    (case k__law_drawn => k_is)
    (case a__law_ground => k_is)
    (case l__law_ground => k_is)
    (case c__law_ground => k_is)
    (case k__law_ground => k_is)
    (case a__law_sides => k_is)
    (case l__law_sides => k_is)
    (case c__law_sides => k_is)
    (case k__law_sides => k_is)
    (case a__law_leaf => k_is)
    (case l__law_leaf => k_is)
    (case c__law_leaf => k_is)
    (case k__law_leaf => k_is)
    (case a__law_over_one => k_is)
    (case l__law_over_one => k_is)
    (case c__law_over_one => k_is)
    (case k__law_over_one => k_is)
    (case a__law_over_two => k_is)
    (case l__law_over_two => k_is)
    (case c__law_over_two => k_is)
    (case k__law_over_two => k_is)
    (case a__law_term => k_is)
    (case l__law_term => k_is)
    (case c__law_term => k_is)
    (case k__law_term => k_is)
    (case a__law_number_text => k_is)
    (case l__law_number_text => k_is)
    (case c__law_number_text => k_is)
    (case k__law_number_text => k_is)
    (case a__law_bound => k_is)
    (case l__law_bound => k_is)
    (case c__law_bound => k_is)
    (case k__law_bound => k_is)
    (case a__law_in => k_is)
    (case l__law_in => k_is)
    (case c__law_in => k_is)
    (case k__law_in => k_is)
    (case a__law_text => k_is)
    (case l__law_text => k_is)
    (case c__law_text => k_is)
    (case k__law_text => k_is)
    (case a__law_great => k_is)
    (case l__law_great => k_is)
    (case c__law_great => k_is)
    (case k__law_great => k_is)
    (case a_law => k_is)
    (case l_law => k_is)
    (case c_law => k_is)
    (case k_law => k_is)
    (case z_isinstance => k_is)
    (case z_int => k_is)
    (case z_bool => k_is)
    (case z_tuple => k_is)
    (case z_len => k_is)
    (case z_abs => k_is)
    (case z_str => k_is)
    (case z_list => k_is)
    (case z_min => k_is)
    (case z_range => k_is)
    (case z_max => k_is)
    (case e_PRIMES => k_is)
    (case l_PRIMES => k_is)
    (case s_PRIMES => exact (by decide))
    (case v_PRIMES => exact .cons ⟨_, rfl⟩ (.cons ⟨_, rfl⟩ (.cons ⟨_, rfl⟩ (.cons ⟨_, rfl⟩ (.cons ⟨_, rfl⟩ (.cons ⟨_, rfl⟩ (.cons ⟨_, rfl⟩ (.cons ⟨_, rfl⟩ (.cons ⟨_, rfl⟩ (.cons ⟨_, rfl⟩ (.cons ⟨_, rfl⟩ (.cons ⟨_, rfl⟩ (.cons ⟨_, rfl⟩ (.cons ⟨_, rfl⟩ (.cons ⟨_, rfl⟩ (.cons ⟨_, rfl⟩ (.cons ⟨_, rfl⟩ (.cons ⟨_, rfl⟩ (.cons ⟨_, rfl⟩ (.cons ⟨_, rfl⟩ (.cons ⟨_, rfl⟩ (.cons ⟨_, rfl⟩ (.cons ⟨_, rfl⟩ (.cons ⟨_, rfl⟩ (.cons ⟨_, rfl⟩ (.nil))))))))))))))))))))))))))
    (case e_OVER => k_is)
    (case r_OVER => exact ⟨_, rfl⟩)
    (case e_SIDES => k_is)
    (case l_SIDES => k_is)
    (case k_SIDES => exact ⟨⟨_, _, rfl, rfl⟩, ⟨_, _, rfl, rfl⟩, ⟨_, _, rfl, rfl⟩, ⟨_, _, rfl, rfl⟩, ⟨_, _, rfl, rfl⟩, ⟨_, _, rfl, rfl⟩, ⟨_, _, rfl, rfl⟩, trivial⟩)
    (case o_SIDES => exact rfl)
    (case e_SIDES_0 => k_is)
    (case l_SIDES_0 => k_is)
    (case s_SIDES_0 => exact (by decide))
    (case v_SIDES_0 => exact .cons ⟨_, rfl⟩ (.cons ⟨_, rfl⟩ (.nil)))
    (case e_SIDES_1 => k_is)
    (case l_SIDES_1 => k_is)
    (case s_SIDES_1 => exact (by decide))
    (case v_SIDES_1 => exact .cons ⟨_, rfl⟩ (.cons ⟨_, rfl⟩ (.nil)))
    (case e_SIDES_2 => k_is)
    (case l_SIDES_2 => k_is)
    (case s_SIDES_2 => exact (by decide))
    (case v_SIDES_2 => exact .cons ⟨_, rfl⟩ (.cons ⟨_, rfl⟩ (.nil)))
    (case e_SIDES_3 => k_is)
    (case l_SIDES_3 => k_is)
    (case s_SIDES_3 => exact (by decide))
    (case v_SIDES_3 => exact .cons ⟨_, rfl⟩ (.cons ⟨_, rfl⟩ (.nil)))
    (case e_SIDES_4 => k_is)
    (case l_SIDES_4 => k_is)
    (case s_SIDES_4 => exact (by decide))
    (case v_SIDES_4 => exact .cons ⟨_, rfl⟩ (.cons ⟨_, rfl⟩ (.nil)))
    (case e_SIDES_5 => k_is)
    (case l_SIDES_5 => k_is)
    (case s_SIDES_5 => exact (by decide))
    (case v_SIDES_5 => exact .cons ⟨_, rfl⟩ (.cons ⟨_, rfl⟩ (.nil)))
    (case e_SIDES_6 => k_is)
    (case l_SIDES_6 => k_is)
    (case s_SIDES_6 => exact (by decide))
    (case v_SIDES_6 => exact .cons ⟨_, rfl⟩ (.cons ⟨_, rfl⟩ (.nil)))
    (case e_JOINTS => k_is)
    (case l_JOINTS => k_is)
    (case k_JOINTS => exact ⟨⟨_, _, rfl, rfl⟩, ⟨_, _, rfl, rfl⟩, ⟨_, _, rfl, rfl⟩, ⟨_, _, rfl, rfl⟩, trivial⟩)
    (case o_JOINTS => exact rfl)
    (case e_JOINTS_0 => k_is)
    (case r_JOINTS_0 => exact ⟨_, rfl⟩)
    (case e_JOINTS_1 => k_is)
    (case r_JOINTS_1 => exact ⟨_, rfl⟩)
    (case e_JOINTS_2 => k_is)
    (case r_JOINTS_2 => exact ⟨_, rfl⟩)
    (case e_JOINTS_3 => k_is)
    (case r_JOINTS_3 => exact ⟨_, rfl⟩)
    (case e_MOST_PARTS => k_is)
    (case r_MOST_PARTS => exact ⟨_, rfl⟩)
    (case e_MOST_DEEP => k_is)
    (case r_MOST_DEEP => exact ⟨_, rfl⟩)
    (case e_TIGHT => k_is)
    (case r_TIGHT => exact ⟨_, rfl⟩)
    (case e_LOOSE => k_is)
    (case r_LOOSE => exact ⟨_, rfl⟩)
    (case e_MIDDLE => k_is)
    (case r_MIDDLE => exact ⟨_, rfl⟩)
    (case e_THEN => k_is)
    (case r_THEN => exact ⟨_, rfl⟩)
    (case e_BESIDE => k_is)
    (case r_BESIDE => exact ⟨_, rfl⟩)
    (case e_TIMES => k_is)
    (case r_TIMES => exact ⟨_, rfl⟩)
    (case e_TURNED => k_is)
    (case r_TURNED => exact ⟨_, rfl⟩)
    (case e_LOOP => k_is)
    (case r_LOOP => exact ⟨_, rfl⟩)
    (case e_BLANK => k_is)
    (case r_BLANK => exact ⟨_, rfl⟩)
#print axioms PySem.Challenge.cw_whicheverend_k86_whole_texts_of_terms_holds
