import PyProof.Rows.All
import Wide.All
import OpenK.AllK
import Wide.FinOn
import HandS.ForMost
import HandS.Walk
import HandS.IsInst
import HandS.Wide
import HandS.NoneIn
import HandS.Style
import HandS.Codes
import KE.BitLaws
import HandS.ClsMeth
import HandS.Conv
import PySem.Challenge.RW_stopglass_k37_calls_and_waits
import KE.DataEq
set_option Elab.async false
set_option maxRecDepth 100000
set_option maxHeartbeats 8000000
set_option autoImplicit false
set_option linter.all false
/-! A small logic of data over the hand layer: a def that only makes new data is read over what its names hold (PyData), no heap in sight. -/
namespace K37
open PySem PySem.Spec L2
/-! ### 1. two heaps: B, the part that stands still; H, the whole -/
structure Tr (B H B' H' : Hp) : Prop where
  b : Same B B'
  bh : Same B' H'
  h : Same H H'
  fr : ∀ a o, B' a = some o → B a = none → H a = none
theorem Tr.refl {B H : Hp} (e : Same B H) : Tr B H B H := ⟨Same.refl B, e, Same.refl H, fun a o h n => by rw [n] at h; cases h⟩
theorem Tr.trans {B H B1 H1 B2 H2 : Hp} (x : Tr B H B1 H1) (y : Tr B1 H1 B2 H2) : Tr B H B2 H2 :=
  ⟨x.b.trans y.b, y.bh, x.h.trans y.h, fun a o h n => by
    cases q : B1 a with
    | none => exact x.h.free (y.fr a o h q)
    | some u => exact x.fr a u q n⟩
theorem same_upd {H H' : Hp} {p : Addr} {o : HO} (e : Same H H') (n : H p = none) : Same H (upd H' p o) := fun a u h => by
  rw [upd_ne (ne_of_none h n)]
  exact e a u h
theorem same_upd2 {B H : Hp} {p : Addr} {o : HO} (e : Same B H) : Same (upd B p o) (upd H p o) := fun a u h => by
  by_cases q : a = p
  · subst q
    rw [upd_same] at h ⊢
    exact h
  · rw [upd_ne q] at h ⊢
    exact e a u h
/-- the whole alone grows -/
theorem Tr.grow {B H H' : Hp} (e : Same B H) (g : Same H H') : Tr B H B H' := ⟨Same.refl B, e.trans g, g, fun a o h n => by rw [n] at h; cases h⟩
/-- what is in the whole, new since, may be said to stand still -/
theorem Tr.still {B H B' H' : Hp} {p : Addr} {o : HO} (x : Tr B H B' H') (n : H p = none) (m : B' p = none) (h : H' p = some o) : Tr B H (upd B' p o) H' :=
  ⟨same_upd x.b (x.b.free m), fun a u k => by
    by_cases q : a = p
    · subst q
      rw [upd_same] at k
      rw [h]
      exact k
    · rw [upd_ne q] at k
      exact x.bh a u k, x.h, fun a u k z => by
    by_cases q : a = p
    · subst q
      exact n
    · rw [upd_ne q] at k
      exact x.fr a u k z⟩
/-- what the whole alone knows stays out of the part that stands still -/
theorem Tr.out {B H B' H' : Hp} {p : Addr} {o : HO} (x : Tr B H B' H') (n : B p = none) (h : H p = some o) : B' p = none := by
  cases q : B' p with
  | none => rfl
  | some u =>
    rw [x.fr p u q n] at h
    cases h
theorem seq_t {K : PySem.W.Frag} {H H' : Hp} {a : Addr} {xs : List V} (e : Same H H') (h : SqT K H a xs) : SqT K H' a xs := by
  rcases h with (h | ⟨o, h⟩) | h
  · exact .inl (.inl (e _ _ h))
  · exact .inl (.inr ⟨o, e _ _ h⟩)
  · exact .inr h
mutual
theorem dp_same {K : PySem.W.Frag} {H H' : Hp} (e : Same H H') : ∀ {v : V} {d : PyData}, Dp K H v d → Dp K H' v d
  | _, _, .non => .non
  | _, _, .bl b => .bl b
  | _, _, .int i => .int i
  | _, _, .str x => .str x
  | _, _, .lst s a => .lst (e.seq s) (dps_same e a)
  | _, _, .tup s a => .tup (seq_t e s) (dps_same e a)
theorem dps_same {K : PySem.W.Frag} {H H' : Hp} (e : Same H H') : ∀ {vs : List V} {ds : List PyData}, DpAll K H vs ds → DpAll K H' vs ds
  | _, _, .nil => .nil
  | _, _, .cons a b => .cons (dp_same e a) (dps_same e b)
end
section
variable {K : PySem.W.Frag} {H : Hp}
theorem dps_len : ∀ {vs : List V} {ds : List PyData}, DpAll K H vs ds → vs.length = ds.length
  | _, _, .nil => rfl
  | _, _, .cons _ b => by rw [List.length_cons, List.length_cons, dps_len b]
theorem dps_at : ∀ {vs : List V} {ds : List PyData} {i : Nat} {d : PyData}, DpAll K H vs ds → ds[i]? = some d → ∃ v, vs[i]? = some v ∧ Dp K H v d
  | _, _, _, _, .nil, h => by simp at h
  | _, _, 0, _, .cons a _, h => by
    rw [List.getElem?_cons_zero] at h
    cases h
    exact ⟨_, List.getElem?_cons_zero .., a⟩
  | _, _, i + 1, _, .cons _ b, h => by
    rw [List.getElem?_cons_succ] at h
    obtain ⟨v, e, d⟩ := dps_at b h
    exact ⟨v, by rw [List.getElem?_cons_succ]; exact e, d⟩
theorem dps_at' {vs : List V} {ds : List PyData} {i : Nat} {v : V} (h : DpAll K H vs ds) (e : vs[i]? = some v) : ∃ d, ds[i]? = some d ∧ Dp K H v d := by
  obtain ⟨hi, _⟩ := List.getElem?_eq_some_iff.mp e
  rw [dps_len h] at hi
  have e2 : ds[i]? = some ds[i] := List.getElem?_eq_getElem hi
  obtain ⟨v', e3, d⟩ := dps_at h e2
  rw [e] at e3
  cases e3
  exact ⟨_, e2, d⟩
theorem dps_snoc : ∀ {vs : List V} {ds : List PyData} {v : V} {d : PyData}, DpAll K H vs ds → Dp K H v d → DpAll K H (vs ++ [v]) (ds ++ [d])
  | _, _, _, _, .nil, h => .cons h .nil
  | _, _, _, _, .cons a b, h => .cons a (dps_snoc b h)
theorem dps_app : ∀ {vs : List V} {ds : List PyData} {us : List V} {es : List PyData}, DpAll K H vs ds → DpAll K H us es → DpAll K H (vs ++ us) (ds ++ es)
  | _, _, _, _, .nil, h => h
  | _, _, _, _, .cons a b, h => .cons a (dps_app b h)
theorem dps_drop : ∀ {vs : List V} {ds : List PyData} (n : Nat), DpAll K H vs ds → DpAll K H (vs.drop n) (ds.drop n)
  | _, _, 0, h => h
  | _, _, _ + 1, .nil => .nil
  | _, _, n + 1, .cons _ b => dps_drop n b
theorem dps_take : ∀ {vs : List V} {ds : List PyData} (n : Nat), DpAll K H vs ds → DpAll K H (vs.take n) (ds.take n)
  | _, _, 0, _ => .nil
  | _, _, _ + 1, .nil => .nil
  | _, _, n + 1, .cons a b => .cons a (dps_take n b)
end
theorem atI_ix {α β : Type} {xs : List α} {ys : List β} {i : Int} {d : β} (hl : xs.length = ys.length) (h : atI ys i = some d) : ∃ j : Nat, ys[j]? = some d ∧ atI xs i = xs[j]? := by
  unfold atI at h ⊢
  rw [hl]
  cases e : ixN ys.length i with
  | none => rw [e] at h; cases h
  | some j =>
    rw [e] at h
    exact ⟨j, h, rfl⟩
/-! ### 2. what a def's names hold -/
inductive Slot where
  /-- nothing is known -/
  | no
  /-- this very value -/
  | raw (v : V)
  /-- this datum -/
  | val (d : PyData)
  /-- a list of the def's own, that grows -/
  | ml (ds : List PyData)
  /-- of this value this holds, here and in all that comes -/
  | fact (φ : V → Hp → Hp → Prop)
def Keeps (φ : V → Hp → Hp → Prop) : Prop := ∀ v B H B' H', Tr B H B' H' → φ v B H → φ v B' H'
def SlotOk (K : PySem.W.Frag) (H0 B H : Hp) (s : Slot) (o : Option (Option V)) : Prop := match s with
  | .no => True
  | .raw v => o = some (some v)
  | .val d => ∃ v, o = some (some v) ∧ Dp K B v d
  | .ml ds => ∃ l xs, o = some (some (.ref l)) ∧ H l = some (.lst xs) ∧ DpAll K B xs ds ∧ B l = none ∧ H0 l = none
  | .fact φ => ∃ v, o = some (some v) ∧ φ v B H ∧ Keeps φ
structure S (K : PySem.W.Frag) (B0 H0 B H : Hp) (σ : L2.St) (δ : List Slot) : Prop where
  tr : Tr B0 H0 B H
  len : σ.length = δ.length
  at_ : ∀ (i : Nat) (s : Slot), δ[i]? = some s → SlotOk K H0 B H s σ[i]?
section
variable {K : PySem.W.Frag} {B0 H0 B H B' H' : Hp} {σ : L2.St} {δ : List Slot}
theorem SlotOk.step {s : Slot} {o : Option (Option V)} (h : SlotOk K H0 B H s o) (t : Tr B H B' H') : SlotOk K H0 B' H' s o := by
  cases s with
  | no => trivial
  | raw v => exact h
  | val d =>
    obtain ⟨v, e, q⟩ := h
    exact ⟨v, e, dp_same t.b q⟩
  | ml ds =>
    obtain ⟨l, xs, e, h1, h2, h3, h4⟩ := h
    exact ⟨l, xs, e, t.h _ _ h1, dps_same t.b h2, t.out h3 h1, h4⟩
  | fact φ =>
    obtain ⟨v, e, q, k⟩ := h
    exact ⟨v, e, k _ _ _ _ _ t q, k⟩
theorem S.step (s : S K B0 H0 B H σ δ) (t : Tr B H B' H') : S K B0 H0 B' H' σ δ := ⟨s.tr.trans t, s.len, fun i x h => (s.at_ i x h).step t⟩
theorem S.bh (s : S K B0 H0 B H σ δ) : Same B H := s.tr.bh
theorem S.set {x : Slot} {v : V} (s : S K B0 H0 B H σ δ) (i : Nat) (h : SlotOk K H0 B H x (some (some v))) : S K B0 H0 B H (σ.set i (some v)) (δ.set i x) := by
  refine ⟨s.tr, by rw [List.length_set, List.length_set]; exact s.len, fun j y e => ?_⟩
  rw [List.getElem?_set] at e ⊢
  by_cases q : i = j
  · subst q
    rw [if_pos rfl] at e ⊢
    by_cases z : i < δ.length
    · rw [if_pos z] at e
      rw [if_pos (by rw [s.len]; exact z)]
      cases e
      exact h
    · rw [if_neg z] at e
      cases e
  · rw [if_neg q] at e ⊢
    exact s.at_ j y e
theorem S.val (s : S K B0 H0 B H σ δ) (i : Nat) {v : V} {d : PyData} (h : Dp K B v d) : S K B0 H0 B H (σ.set i (some v)) (δ.set i (.val d)) := s.set i ⟨v, rfl, h⟩
end
/-! ### 3. the readings over data -/
section
variable (K : PySem.W.Frag)
def VE (te : TE) (δ : List Slot) (d : PyData) : Prop :=
  ∀ B0 H0 B H σ, S K B0 H0 B H σ δ → ∀ Q : VK, (∀ v B' H', Tr B H B' H' → Dp K B' v d → Q v H') → te σ H Q
/-- a value that is no datum, the heap as it was -/
def VR (te : TE) (δ : List Slot) (v : V) : Prop :=
  ∀ B0 H0 B H σ, S K B0 H0 B H σ δ → ∀ Q : VK, Q v H → te σ H Q
def VL (te : TE) (δ : List Slot) (ds : List PyData) : Prop :=
  ∀ B0 H0 B H σ, S K B0 H0 B H σ δ → ∀ Q : VK, (∀ p xs B' H', Tr B H B' H' → H p = none → B' p = none → H' p = some (.lst xs) → DpAll K B' xs ds → Q (.ref p) H') → te σ H Q
def VA (ta : TA) (δ : List Slot) (ds : List PyData) : Prop :=
  ∀ B0 H0 B H σ, S K B0 H0 B H σ δ → ∀ Q : List V → Hp → Prop, (∀ vs B' H', Tr B H B' H' → DpAll K B' vs ds → Q vs H') → ta σ H Q
def VT (tt : TT) (δ : List Slot) (b : Bool) : Prop :=
  ∀ B0 H0 B H σ, S K B0 H0 B H σ δ → ∀ Q : Bool → Hp → Prop, (∀ B' H', Tr B H B' H' → Q b H') → tt σ H Q
def VO (to : TO) (δ : List Slot) (o : Option Int) : Prop :=
  ∀ B0 H0 B H σ, S K B0 H0 B H σ δ → ∀ Q : Option Int → Hp → Prop, (∀ B' H', Tr B H B' H' → Q o H') → to σ H Q
/-- two values to one -/
def RD (r : R2) (a b d : PyData) : Prop :=
  ∀ B H x y, Same B H → Dp K B x a → Dp K B y b → ∀ Q : VK, (∀ v B' H', Tr B H B' H' → Dp K B' v d → Q v H') → r x y H Q
def RDL (r : R2) (a b : PyData) (ds : List PyData) : Prop :=
  ∀ B H x y, Same B H → Dp K B x a → Dp K B y b → ∀ Q : VK, (∀ p xs B' H', Tr B H B' H' → H p = none → B' p = none → H' p = some (.lst xs) → DpAll K B' xs ds → Q (.ref p) H') → r x y H Q
/-- values to one -/
def RC (r : List V → Hp → VK → Prop) (as : List PyData) (d : PyData) : Prop :=
  ∀ B H vs, Same B H → DpAll K B vs as → ∀ Q : VK, (∀ v B' H', Tr B H B' H' → Dp K B' v d → Q v H') → r vs H Q
def RCL (r : List V → Hp → VK → Prop) (as : List PyData) (ds : List PyData) : Prop :=
  ∀ B H vs, Same B H → DpAll K B vs as → ∀ Q : VK, (∀ p xs B' H', Tr B H B' H' → H p = none → B' p = none → H' p = some (.lst xs) → DpAll K B' xs ds → Q (.ref p) H') → r vs H Q
/-- statements: what goes on, what is handed back -/
def XN (ts : TS) (δ δ' : List Slot) : Prop :=
  ∀ B0 H0 B H σ, S K B0 H0 B H σ δ → ∀ D : Ends, (∀ B' H' σ', Same B B' → S K B0 H0 B' H' σ' δ' → D.nx σ' H') → ts D σ H
def XR (ts : TS) (δ : List Slot) (d : PyData) : Prop :=
  ∀ B0 H0 B H σ, S K B0 H0 B H σ δ → ∀ D : Ends, (∀ v B' H', Tr B0 H0 B' H' → Dp K B' v d → D.rt v H') → ts D σ H
/-- targets -/
def Only (is : List Nat) (σ σ' : L2.St) : Prop := σ'.length = σ.length ∧ ∀ j : Nat, j ∉ is → σ'[j]? = σ[j]?
def XG (g : TG) (is : List Nat) (d : PyData) (δ δ' : List Slot) : Prop :=
  ∀ B0 H0 B H σ v, S K B0 H0 B H σ δ → Dp K B v d → ∀ Q : L2.St → Hp → Prop, (∀ σ', S K B0 H0 B H σ' δ' → Only is σ σ' → Q σ' H) → g v σ H Q
def XGs (g : TGs) (is : List Nat) (ds : List PyData) (δ δ' : List Slot) : Prop :=
  ∀ B0 H0 B H σ vs, S K B0 H0 B H σ δ → DpAll K B vs ds → ∀ Q : L2.St → Hp → Prop, (∀ σ', S K B0 H0 B H σ' δ' → Only is σ σ' → Q σ' H) → g vs σ H Q
/-- what a for walks: these data, one by one -/
structure WalkD (J : It) (B : Hp) (ds : List PyData) : Prop where
  ex : ∃ (G : Hp → Prop) (Y : Nat → Hp → V → Hp → Prop), Walk J ds.length G Y ∧ (∀ H, Same B H → G H) ∧
    ∀ (i : Nat) (x : V) (B1 H1 H2 : Hp) (d : PyData), Same B B1 → Same B1 H1 → ds[i]? = some d → Y i H1 x H2 → ∃ B2, Tr B1 H1 B2 H2 ∧ Dp K B2 x d
def VI (wi : TI) (δ : List Slot) (ds : List PyData) : Prop :=
  ∀ B0 H0 B H σ, S K B0 H0 B H σ δ → ∀ R : It → Hp → Prop, (∀ J B' H', Tr B H B' H' → WalkD K J B' ds → R J H') → wi σ H R
/-- a def that only makes data -/
def spD (R : List PyData → PyData → Prop) : Sp := fun vs H Q _ => ∃ B ds d, Same B H ∧ DpAll K B vs ds ∧ R ds d ∧ ∀ v B' H', Tr B H B' H' → Dp K B' v d → Q v H'
end
section
variable {K : PySem.W.Frag} {δ δ' δ1 : List Slot} {ta tb te : TE} {a b d : PyData} {ds es : List PyData} {r : R2} {t : TA} {c u : TT}
/-! ### 4. expressions -/
theorem ve_var {i : Nat} (h : δ[i]? = some (.val d)) : VE K (tVar i) δ d := fun B0 H0 B H σ s Q q => by
  obtain ⟨v, e, dv⟩ := s.at_ i _ h
  exact ⟨v, e, q v B H (.refl s.bh) dv⟩
theorem vr_var {i : Nat} {v : V} (h : δ[i]? = some (.raw v)) : VR K (tVar i) δ v := fun B0 H0 B H σ s Q q => ⟨v, s.at_ i _ h, q⟩
theorem ve_int {i : Int} : VE K (tC (.int i)) δ (.int i) := fun _ _ B H _ s _ q => q _ B H (.refl s.bh) (.int i)
theorem ve_str {x : Str} : VE K (tC (.str x)) δ (.str x) := fun _ _ B H _ s _ q => q _ B H (.refl s.bh) (.str x)
theorem ve_bl {x : Bool} : VE K (tC (.bl x)) δ (.bool x) := fun _ _ B H _ s _ q => q _ B H (.refl s.bh) (.bl x)
theorem ve_non : VE K (tC .non) δ .none := fun _ _ B H _ s _ q => q _ B H (.refl s.bh) .non
/-- a datum of the written part -/
theorem ve_glob {v : V} (h : ∀ B : Hp, Dp K B v d) : VE K (tC v) δ d := fun _ _ B H _ s _ q => q _ B H (.refl s.bh) (h B)
theorem ve_eq {d' : PyData} (h : VE K te δ d) (e : d = d') : VE K te δ d' := e ▸ h
theorem ve_op (ha : VE K ta δ a) (hb : VE K tb δ b) (hr : RD K r a b d) : VE K (tOp r ta tb) δ d := fun B0 H0 B H σ s Q q =>
  ha B0 H0 B H σ s _ fun x B1 H1 t1 dx => hb B0 H0 B1 H1 σ (s.step t1) _ fun y B2 H2 t2 dy =>
    hr B2 H2 x y t2.bh (dp_same t2.b dx) dy _ fun v B3 H3 t3 dv => q v B3 H3 ((t1.trans t2).trans t3) dv
theorem vl_op (ha : VE K ta δ a) (hb : VE K tb δ b) (hr : RDL K r a b ds) : VL K (tOp r ta tb) δ ds := fun B0 H0 B H σ s Q q =>
  ha B0 H0 B H σ s _ fun x B1 H1 t1 dx => hb B0 H0 B1 H1 σ (s.step t1) _ fun y B2 H2 t2 dy =>
    hr B2 H2 x y t2.bh (dp_same t2.b dx) dy _ fun p xs B3 H3 t3 n m h dv => q p xs B3 H3 ((t1.trans t2).trans t3) ((t1.trans t2).h.free n) m h dv
theorem ve_un {rd : V → Hp → VK → Prop} (ha : VE K ta δ a) (hr : ∀ B H x, Same B H → Dp K B x a → ∀ Q : VK, (∀ v B' H', Tr B H B' H' → Dp K B' v d → Q v H') → rd x H Q) : VE K (tUn rd ta) δ d := fun B0 H0 B H σ s Q q =>
  ha B0 H0 B H σ s _ fun x B1 H1 t1 dx => hr B1 H1 x t1.bh dx _ fun v B3 H3 t3 dv => q v B3 H3 (t1.trans t3) dv
theorem ve_neg {i : Int} (ha : VE K ta δ (.int i)) : VE K (tUn (rU fun i => .int (-i)) ta) δ (.int (-i)) := ve_un ha fun B H x e dx Q q => by
  cases dx
  exact ⟨i, rfl, q _ B H (.refl e) (.int _)⟩
theorem va_nil : VA K tNil δ [] := fun _ _ B H _ s _ q => q [] B H (.refl s.bh) .nil
theorem va_cons (ha : VE K ta δ d) (ht : VA K t δ ds) : VA K (tCons ta t) δ (d :: ds) := fun B0 H0 B H σ s Q q =>
  ha B0 H0 B H σ s _ fun x B1 H1 t1 dx => ht B0 H0 B1 H1 σ (s.step t1) _ fun xs B2 H2 t2 dy => q _ B2 H2 (t1.trans t2) (.cons (dp_same t2.b dx) dy)
theorem ve_tup (h : VA K t δ ds) (hl : ds.length ≤ 1000) : VE K (tTup t) δ (.tuple ds) := fun B0 H0 B H σ s Q q =>
  h B0 H0 B H σ s _ fun xs B1 H1 t1 dx => ⟨by rw [dps_len dx]; exact Nat.le_of_lt (small1000 hl), fun p hp =>
    q _ (upd B1 p (.tup xs)) _ ((t1.trans (Tr.grow t1.bh (same_upd (Same.refl H1) hp))).still (t1.h.free hp) (t1.bh.free hp) upd_same) (.tup (SqT.of upd_same) (dps_same (same_upd (Same.refl B1) (t1.bh.free hp)) dx))⟩
theorem vl_lst (h : VA K t δ ds) (hl : ds.length ≤ 1000) : VL K (tLst t) δ ds := fun B0 H0 B H σ s Q q =>
  h B0 H0 B H σ s _ fun xs B1 H1 t1 dx => ⟨by rw [dps_len dx]; exact Nat.le_of_lt (small1000 hl), fun p hp =>
    q p xs B1 _ (t1.trans (Tr.grow t1.bh (same_upd (Same.refl H1) hp))) (t1.h.free hp) (t1.bh.free hp) upd_same dx⟩
theorem VL.ve (h : VL K te δ ds) : VE K te δ (.list ds) := fun B0 H0 B H σ s Q q =>
  h B0 H0 B H σ s _ fun p xs B1 H1 t1 n m e dx => q _ (upd B1 p (.lst xs)) H1 (t1.still n m e) (.lst (SqL.of upd_same) (dps_same (same_upd (Same.refl B1) m) dx))
theorem ve_if {d' : PyData} {k : Bool} (hc : VT K c δ k) (h1 : k = true → VE K ta δ d) (h2 : k = false → VE K tb δ d) : VE K (tIf c ta tb) δ d := fun B0 H0 B H σ s Q q =>
  hc B0 H0 B H σ s _ fun B1 H1 t1 => by
    cases k with
    | true => exact iteT (h1 rfl B0 H0 B1 H1 σ (s.step t1) Q fun v B2 H2 t2 dv => q v B2 H2 (t1.trans t2) dv)
    | false => exact iteF (h2 rfl B0 H0 B1 H1 σ (s.step t1) Q fun v B2 H2 t2 dv => q v B2 H2 (t1.trans t2) dv)
theorem ve_cb {rc : List V → Hp → VK → Prop} (h : VA K t δ ds) (hr : RC K rc ds d) : VE K (tCB rc t) δ d := fun B0 H0 B H σ s Q q =>
  h B0 H0 B H σ s _ fun xs B1 H1 t1 dx => hr B1 H1 xs t1.bh dx _ fun v B2 H2 t2 dv => q v B2 H2 (t1.trans t2) dv
theorem vl_cb {rc : List V → Hp → VK → Prop} (h : VA K t δ ds) (hr : RCL K rc ds es) : VL K (tCB rc t) δ es := fun B0 H0 B H σ s Q q =>
  h B0 H0 B H σ s _ fun xs B1 H1 t1 dx => hr B1 H1 xs t1.bh dx _ fun p ys B2 H2 t2 n m e dv => q p ys B2 H2 (t1.trans t2) (t1.h.free n) m e dv
/-- a def of one's own that only makes data -/
theorem ve_call {R : List PyData → PyData → Prop} {E : XK} (h : VA K t δ ds) (hr : R ds d) : VE K (tCall (spD K R) [] E t) δ d := fun B0 H0 B H σ s Q q =>
  h B0 H0 B H σ s _ fun xs B1 H1 t1 dx => ⟨B1, ds, d, t1.bh, by rw [List.append_nil]; exact dx, hr, fun v B2 H2 t2 dv => q v B2 H2 (t1.trans t2) dv⟩
theorem ve_slice {rd : V → Option Int → Option Int → Hp → VK → Prop} {tl th : TO} {lo hi : Option Int} (h : VE K te δ a) (hl : VO K tl δ lo) (hh : VO K th δ hi)
    (hr : ∀ B H x, Same B H → Dp K B x a → ∀ Q : VK, (∀ v B' H', Tr B H B' H' → Dp K B' v d → Q v H') → rd x lo hi H Q) : VE K (tSl rd te tl th) δ d := fun B0 H0 B H σ s Q q =>
  h B0 H0 B H σ s _ fun x B1 H1 t1 dx => hl B0 H0 B1 H1 σ (s.step t1) _ fun B2 H2 t2 => hh B0 H0 B2 H2 σ ((s.step t1).step t2) _ fun B3 H3 t3 =>
    hr B3 H3 x t3.bh (dp_same t3.b (dp_same t2.b dx)) Q fun v B4 H4 t4 dv => q v B4 H4 (((t1.trans t2).trans t3).trans t4) dv
theorem vo_none : VO K tNoPart δ none := fun _ _ B H _ s _ q => q B H (.refl s.bh)
theorem vo_some {i : Int} (h : VE K te δ (.int i)) : VO K (tPart te) δ (some i) := fun B0 H0 B H σ s Q q =>
  h B0 H0 B H σ s _ fun x B1 H1 t1 dx => by
    cases dx
    exact ⟨i, rfl, q B1 H1 t1⟩
/-! ### 5. operators by values -/
theorem rd_int {g : Int → Int → Int} {i j : Int} : RD K (rI0 fun i j => .int (g i j)) (.int i) (.int j) (.int (g i j)) := fun B H x y e dx dy Q q => by
  cases dx; cases dy
  exact ⟨i, j, rfl, rfl, q _ B H (.refl e) (.int _)⟩
theorem rd_intC {C : Int → Int → Prop} {g : Int → Int → Int} {i j : Int} (hc : C i j) : RD K (rI C fun i j => .int (g i j)) (.int i) (.int j) (.int (g i j)) := fun B H x y e dx dy Q q => by
  cases dx; cases dy
  exact ⟨i, j, rfl, rfl, hc, q _ B H (.refl e) (.int _)⟩
theorem rd_bool {g : Int → Int → Bool} {i j : Int} : RD K (rI0 fun i j => .bl (g i j)) (.int i) (.int j) (.bool (g i j)) := fun B H x y e dx dy Q q => by
  cases dx; cases dy
  exact ⟨i, j, rfl, rfl, q _ B H (.refl e) (.bl _)⟩
theorem rd_eqS {x y : Str} : RD K rEq (.str x) (.str y) (.bool (decide (x = y))) := fun B H v w e dx dy Q q => by
  cases dx; cases dy
  refine ⟨rfl, ?_⟩
  have z : decide (V.str x = V.str y) = decide (x = y) := by
    by_cases k : x = y
    · rw [decide_eq_true k, decide_eq_true (congrArg V.str k)]
    · rw [decide_eq_false k, decide_eq_false fun h => k (V.str.inj h)]
  rw [z]
  exact q _ B H (.refl e) (.bl _)
theorem rd_eqI {x y : Int} : RD K rEq (.int x) (.int y) (.bool (decide (x = y))) := fun B H v w e dx dy Q q => by
  cases dx; cases dy
  refine ⟨rfl, ?_⟩
  have z : decide (V.int x = V.int y) = decide (x = y) := by
    by_cases k : x = y
    · rw [decide_eq_true k, decide_eq_true (congrArg V.int k)]
    · rw [decide_eq_false k, decide_eq_false fun h => k (V.int.inj h)]
  rw [z]
  exact q _ B H (.refl e) (.bl _)
theorem rd_neI {x y : Int} : RD K rNe (.int x) (.int y) (.bool (!decide (x = y))) := fun B H v w e dx dy Q q => by
  cases dx; cases dy
  refine ⟨rfl, ?_⟩
  have z : decide (V.int x = V.int y) = decide (x = y) := by
    by_cases k : x = y
    · rw [decide_eq_true k, decide_eq_true (congrArg V.int k)]
    · rw [decide_eq_false k, decide_eq_false fun h => k (V.int.inj h)]
  rw [z]
  exact q _ B H (.refl e) (.bl _)
theorem rd_addS {x y : Str} (h : x.length + y.length ≤ 1000) : RD K (fun x y H Q => ∃ i j, x = .str i ∧ y = .str j ∧ i.length + j.length ≤ sizeLine ∧ Q (.str (i ++ j)) H) (.str x) (.str y) (.str (x ++ y)) := fun B H v w e dx dy Q q => by
  cases dx; cases dy
  exact ⟨x, y, rfl, rfl, Nat.le_of_lt (small1000 h), q _ B H (.refl e) (.str _)⟩
theorem rd_ixL {i : Int} (h : atI ds i = some d) : RD K (rIxL K) (.list ds) (.int i) d := fun B H x y e dx dy Q q => by
  cases dy
  cases dx with
  | @lst p xs _ s da =>
    obtain ⟨j, hj, ej⟩ := atI_ix (dps_len da) h
    obtain ⟨v, ev, dv⟩ := dps_at da hj
    exact ⟨p, xs, i, v, rfl, rfl, e.seq s, ej.trans ev, q v B H (.refl e) dv⟩
theorem rd_ixT {i : Int} (h : atI ds i = some d) : RD K (rIxT K) (.tuple ds) (.int i) d := fun B H x y e dx dy Q q => by
  cases dy
  cases dx with
  | @tup p xs _ s da =>
    obtain ⟨j, hj, ej⟩ := atI_ix (dps_len da) h
    obtain ⟨v, ev, dv⟩ := dps_at da hj
    exact ⟨p, xs, i, v, rfl, rfl, seq_t e s, ej.trans ev, q v B H (.refl e) dv⟩
theorem rd_ixS {z : Str} {i : Int} {k : Nat} (hz : z.length ≤ 1000) (h : atI z.cps.toList i = some k) : RD K rIxS (.str z) (.int i) (.str ⟨#[k]⟩) := fun B H x y e dx dy Q q => by
  cases dy; cases dx
  exact ⟨z, i, k, rfl, rfl, Nat.le_of_lt (small1000 hz), h, q _ B H (.refl e) (.str _)⟩
/-- flat data -/
def flatD : PyData → Option V
  | .none => some .non
  | .bool b => some (.bl b)
  | .int i => some (.int i)
  | .str x => some (.str x)
  | _ => none
theorem flat_dp {B : Hp} {x : V} {w : V} (h : flatD d = some w) (dx : Dp K B x d) : x = w ∧ flatV w = true := by
  cases dx <;> cases h <;> exact ⟨rfl, rfl⟩
theorem flat_dps {B : Hp} {xs : List V} {ds : List PyData} {ws : List V} (h : ds.mapM flatD = some ws) (hd : DpAll K B xs ds) : xs = ws ∧ ws.all flatV = true := by
  induction ds generalizing xs ws with
  | nil =>
    cases hd
    cases h
    exact ⟨rfl, rfl⟩
  | cons d ds ih =>
    cases hd with
    | cons a b =>
      rw [List.mapM_cons] at h
      cases e1 : flatD d with
      | none => rw [e1] at h; cases h
      | some w =>
        cases e2 : ds.mapM flatD with
        | none => rw [e1, e2] at h; cases h
        | some us =>
          rw [e1, e2] at h
          cases h
          obtain ⟨z1, z2⟩ := flat_dp e1 a
          obtain ⟨z3, z4⟩ := ih e2 b
          exact ⟨by rw [z1, z3], by rw [List.all_cons, z2, z4]; rfl⟩
theorem rd_inL {neg : Bool} {w : V} {ws : List V} (h1 : flatD a = some w) (h2 : ds.mapM flatD = some ws) : RD K (rIn K neg) a (.list ds) (.bool (if neg then !inV w ws else inV w ws)) := fun B H x y e dx dy Q q => by
  cases dy with
  | @lst p xs _ s da =>
    obtain ⟨rfl, z1⟩ := flat_dp h1 dx
    obtain ⟨rfl, z2⟩ := flat_dps h2 da
    exact ⟨p, xs, rfl, .inl (e.seq s), z1, z2, q _ B H (.refl e) (.bl _)⟩
theorem rd_inT {neg : Bool} {w : V} {ws : List V} (h1 : flatD a = some w) (h2 : ds.mapM flatD = some ws) : RD K (rIn K neg) a (.tuple ds) (.bool (if neg then !inV w ws else inV w ws)) := fun B H x y e dx dy Q q => by
  cases dy with
  | @tup p xs _ s da =>
    obtain ⟨rfl, z1⟩ := flat_dp h1 dx
    obtain ⟨rfl, z2⟩ := flat_dps h2 da
    exact ⟨p, xs, rfl, .inr (seq_t e s), z1, z2, q _ B H (.refl e) (.bl _)⟩
/-! ### 6. tests -/
theorem vt_test {k : Bool} (h : VE K te δ (.bool k)) : VT K (tTest te) δ k := fun B0 H0 B H σ s Q q =>
  h B0 H0 B H σ s _ fun v B1 H1 t1 dv => by
    cases dv
    exact ⟨k, rfl, q B1 H1 t1⟩
theorem vt_B {k : Bool} (h : VE K te δ (.bool k)) : VT K (tB te) δ k := fun B0 H0 B H σ s Q q =>
  h B0 H0 B H σ s _ fun v B1 H1 t1 dv => by
    cases dv
    exact ⟨k, rfl, q B1 H1 t1⟩
theorem vt_eq {k k' : Bool} (h : VT K c δ k) (e : k = k') : VT K c δ k' := e ▸ h
theorem vt_not {k : Bool} (h : VT K c δ k) : VT K (tNot c) δ (!k) := fun B0 H0 B H σ s Q q => h B0 H0 B H σ s _ fun B1 H1 t1 => q B1 H1 t1
theorem vt_and {k l : Bool} (h : VT K c δ k) (h2 : k = true → VT K u δ l) : VT K (tAnd c u) δ (k && l) := fun B0 H0 B H σ s Q q =>
  h B0 H0 B H σ s _ fun B1 H1 t1 => by
    cases k with
    | true => exact iteT (h2 rfl B0 H0 B1 H1 σ (s.step t1) Q fun B2 H2 t2 => q B2 H2 (t1.trans t2))
    | false => exact iteF (q B1 H1 t1)
theorem vt_or {k l : Bool} (h : VT K c δ k) (h2 : k = false → VT K u δ l) : VT K (tOr c u) δ (k || l) := fun B0 H0 B H σ s Q q =>
  h B0 H0 B H σ s _ fun B1 H1 t1 => by
    cases k with
    | true => exact iteT (q B1 H1 t1)
    | false => exact iteF (h2 rfl B0 H0 B1 H1 σ (s.step t1) Q fun B2 H2 t2 => q B2 H2 (t1.trans t2))
theorem ve_andV {k l : Bool} (h : VE K ta δ (.bool k)) (h2 : k = true → VE K tb δ (.bool l)) : VE K (tAndV ta tb) δ (.bool (k && l)) := fun B0 H0 B H σ s Q q =>
  h B0 H0 B H σ s _ fun v B1 H1 t1 dv => by
    cases dv
    refine ⟨k, rfl, ?_⟩
    cases k with
    | true => exact iteT (h2 rfl B0 H0 B1 H1 σ (s.step t1) Q fun v B2 H2 t2 dv => q v B2 H2 (t1.trans t2) dv)
    | false => exact iteF (q _ B1 H1 t1 (.bl _))
theorem ve_notV {k : Bool} (h : VE K ta δ (.bool k)) : VE K (tNotV ta) δ (.bool (!k)) := fun B0 H0 B H σ s Q q =>
  h B0 H0 B H σ s _ fun v B1 H1 t1 dv => by
    cases dv
    exact ⟨k, rfl, q _ B1 H1 t1 (.bl _)⟩
theorem ve_isN {k : Bool} (h : VE K ta δ a) (hk : (match a with | .none => true | _ => false) = k) : VE K (tIsN ta) δ (.bool k) := fun B0 H0 B H σ s Q q =>
  h B0 H0 B H σ s _ fun v B1 H1 t1 dv => by
    subst hk
    cases dv <;> exact q _ B1 H1 t1 (.bl _)
theorem ve_notN {k : Bool} (h : VE K ta δ a) (hk : (match a with | .none => false | _ => true) = k) : VE K (tNotN ta) δ (.bool k) := fun B0 H0 B H σ s Q q =>
  h B0 H0 B H σ s _ fun v B1 H1 t1 dv => by
    subst hk
    cases dv <;> exact q _ B1 H1 t1 (.bl _)
/-! ### 7. targets -/
theorem Only.refl {is : List Nat} {σ : L2.St} : Only is σ σ := ⟨rfl, fun _ _ => rfl⟩
theorem xg_name {i : Nat} : XG K (gName i) [i] d δ (δ.set i (.val d)) := fun B0 H0 B H σ v s dv Q q =>
  q _ (s.val i dv) ⟨List.length_set, fun j hj => List.getElem?_set_ne fun e => hj (by rw [e]; exact List.mem_singleton.mpr rfl)⟩
theorem xgs_nil : XGs K gNil [] [] δ δ := fun B0 H0 B H σ vs s dv Q q => by
  cases dv
  exact ⟨rfl, q σ s .refl⟩
theorem xgs_cons {g : TG} {gs : TGs} {is js : List Nat} (h : XG K g is d δ δ1) (h2 : XGs K gs js ds δ1 δ') : XGs K (gCons g gs) (is ++ js) (d :: ds) δ δ' := fun B0 H0 B H σ vs s dv Q q => by
  cases dv with
  | @cons v r _ _ dv dr =>
    exact ⟨v, r, rfl, h B0 H0 B H σ v s dv _ fun σ1 s1 o1 => h2 B0 H0 B H σ1 r s1 dr _ fun σ2 s2 o2 =>
      q σ2 s2 ⟨o2.1.trans o1.1, fun j hj => (o2.2 j fun z => hj (List.mem_append_right _ z)).trans (o1.2 j fun z => hj (List.mem_append_left _ z))⟩⟩
theorem xg_tup {gs : TGs} {is : List Nat} {n : Nat} (h : XGs K gs is ds δ δ') (hn : ds.length = n) : XG K (gTup K n gs) is (.tuple ds) δ δ' := fun B0 H0 B H σ v s dv Q q => by
  cases dv with
  | @tup p xs _ sq da => exact ⟨p, xs, rfl, seq_t s.bh sq, (dps_len da).trans hn, h B0 H0 B H σ xs s da Q q⟩
theorem xg_unl {gs : TGs} {is : List Nat} {n : Nat} (h : XGs K gs is ds δ δ') (hn : ds.length = n) : XG K (gUnl K n gs) is (.list ds) δ δ' := fun B0 H0 B H σ v s dv Q q => by
  cases dv with
  | @lst p xs _ sq da => exact ⟨p, xs, rfl, s.bh.seq sq, (dps_len da).trans hn, h B0 H0 B H σ xs s da Q q⟩
/-! ### 8. statements -/
variable {t1 t2 ts : TS}
theorem xr_seq (h : XN K t1 δ δ1) (h2 : XR K t2 δ1 d) : XR K (tSeq t1 t2) δ d := fun B0 H0 B H σ s D q =>
  h B0 H0 B H σ s _ fun B1 H1 σ1 _ s1 => h2 B0 H0 B1 H1 σ1 s1 D q
theorem xn_seq (h : XN K t1 δ δ1) (h2 : XN K t2 δ1 δ') : XN K (tSeq t1 t2) δ δ' := fun B0 H0 B H σ s D q =>
  h B0 H0 B H σ s _ fun B1 H1 σ1 e1 s1 => h2 B0 H0 B1 H1 σ1 s1 D fun B2 H2 σ2 e2 s2 => q B2 H2 σ2 (e1.trans e2) s2
theorem xr_now (h : XR K t1 δ d) : XR K (tSeq t1 t2) δ d := fun B0 H0 B H σ s D q => h B0 H0 B H σ s _ q
theorem xn_next : XN K tNext δ δ := fun B0 H0 B H σ s D q => q B H σ (Same.refl B) s
theorem xr_if {k : Bool} (hc : VT K c δ k) (h1 : k = true → XR K t1 δ d) (h2 : k = false → XR K t2 δ d) : XR K (tIfS c t1 t2) δ d := fun B0 H0 B H σ s D q =>
  hc B0 H0 B H σ s _ fun B1 H1 r => by
    cases k with
    | true => exact iteT (h1 rfl B0 H0 B1 H1 σ (s.step r) D q)
    | false => exact iteF (h2 rfl B0 H0 B1 H1 σ (s.step r) D q)
theorem xn_if {k : Bool} (hc : VT K c δ k) (h1 : k = true → XN K t1 δ δ') (h2 : k = false → XN K t2 δ δ') : XN K (tIfS c t1 t2) δ δ' := fun B0 H0 B H σ s D q =>
  hc B0 H0 B H σ s _ fun B1 H1 r => by
    cases k with
    | true => exact iteT (h1 rfl B0 H0 B1 H1 σ (s.step r) D fun B2 H2 σ2 e2 s2 => q B2 H2 σ2 (r.b.trans e2) s2)
    | false => exact iteF (h2 rfl B0 H0 B1 H1 σ (s.step r) D fun B2 H2 σ2 e2 s2 => q B2 H2 σ2 (r.b.trans e2) s2)
/-- if c: return ..; then the rest -/
theorem xr_when {k : Bool} (hc : VT K c δ k) (h1 : k = true → XR K t1 δ d) (h2 : k = false → XR K t2 δ d) : XR K (tSeq (tIfS c t1 tNext) t2) δ d := fun B0 H0 B H σ s D q =>
  hc B0 H0 B H σ s _ fun B1 H1 r => by
    cases k with
    | true => exact iteT (h1 rfl B0 H0 B1 H1 σ (s.step r) _ q)
    | false => exact iteF (h2 rfl B0 H0 B1 H1 σ (s.step r) D q)
theorem xn_set {i : Nat} (h : VE K te δ d) : XN K (tAsg te (gName i)) δ (δ.set i (.val d)) := fun B0 H0 B H σ s D q =>
  h B0 H0 B H σ s _ fun v B1 H1 r dv => q B1 H1 _ r.b ((s.step r).val i dv)
theorem xn_setL {i : Nat} (h : VL K te δ ds) : XN K (tAsg te (gName i)) δ (δ.set i (.ml ds)) := fun B0 H0 B H σ s D q =>
  h B0 H0 B H σ s _ fun p xs B1 H1 r n m e dv => q B1 H1 _ r.b ((s.step r).set i ⟨p, xs, rfl, e, dv, m, s.tr.h.free n⟩)
theorem xn_asg {g : TG} {is : List Nat} (h : VE K te δ d) (hg : XG K g is d δ δ') : XN K (tAsg te g) δ δ' := fun B0 H0 B H σ s D q =>
  h B0 H0 B H σ s _ fun v B1 H1 r dv => hg B0 H0 B1 H1 σ v (s.step r) dv _ fun σ' s' _ => q B1 H1 σ' r.b s'
theorem xr_ret (h : VE K te δ d) : XR K (tRet te) δ d := fun B0 H0 B H σ s D q => h B0 H0 B H σ s _ fun v B1 H1 r dv => q v B1 H1 (s.tr.trans r) dv
/-- the def's own list is handed back -/
theorem xr_retM {i : Nat} (h : δ[i]? = some (.ml ds)) : XR K (tRet (tVar i)) δ (.list ds) := fun B0 H0 B H σ s D q => by
  obtain ⟨l, xs, e, h1, h2, h3, h4⟩ := s.at_ i _ h
  exact ⟨_, e, q _ (upd B l (.lst xs)) H (s.tr.still h4 h3 h1) (.lst (SqL.of upd_same) (dps_same (same_upd (Same.refl B) h3) h2))⟩
/-- no other list of the def's own -/
def oneMl : List Slot → Nat → Bool
  | [], _ => true
  | _ :: r, 0 => (r.all fun s => match s with | .ml _ => false | .fact _ => false | _ => true)
  | x :: r, i + 1 => (match x with | .ml _ => false | .fact _ => false | _ => true) && oneMl r i
theorem oneMl_ne : ∀ {δ : List Slot} {i j : Nat} {es : List PyData}, oneMl δ i = true → δ[j]? = some (.ml es) → j = i
  | [], _, _, _, _, h => by simp at h
  | x :: r, 0, 0, _, _, _ => rfl
  | x :: r, 0, j + 1, es, o, h => by
    rw [List.getElem?_cons_succ] at h
    have z := List.all_eq_true.mp o _ (List.mem_of_getElem? h)
    cases z
  | x :: r, i + 1, 0, es, o, h => by
    rw [List.getElem?_cons_zero] at h
    cases h
    cases o
  | x :: r, i + 1, j + 1, es, o, h => by
    rw [List.getElem?_cons_succ] at h
    have z : oneMl r i = true := by
      unfold oneMl at o
      exact (Bool.and_eq_true_iff.mp o).2
    rw [oneMl_ne z h]
theorem oneMl_no : ∀ {δ : List Slot} {i j : Nat} {φ : V → Hp → Hp → Prop}, oneMl δ i = true → δ[j]? = some (.fact φ) → j = i
  | [], _, _, _, _, h => by simp at h
  | x :: r, 0, 0, _, _, _ => rfl
  | x :: r, 0, j + 1, es, o, h => by
    rw [List.getElem?_cons_succ] at h
    have z := List.all_eq_true.mp o _ (List.mem_of_getElem? h)
    cases z
  | x :: r, i + 1, 0, es, o, h => by
    rw [List.getElem?_cons_zero] at h
    cases h
    cases o
  | x :: r, i + 1, j + 1, es, o, h => by
    rw [List.getElem?_cons_succ] at h
    have z : oneMl r i = true := by
      unfold oneMl at o
      exact (Bool.and_eq_true_iff.mp o).2
    rw [oneMl_no z h]
theorem S.put {B0 H0 B H : Hp} {σ : L2.St} {i : Nat} {l : Addr} {xs : List V} (s : S K B0 H0 B H σ δ) (h : δ[i]? = some (.ml ds)) (ho : oneMl δ i = true) (hl : σ[i]? = some (some (.ref l))) (hx : DpAll K B xs es) :
    S K B0 H0 B (upd H l (.lst xs)) σ (δ.set i (.ml es)) := by
  obtain ⟨l', ys, e, h1, h2, h3, h4⟩ := s.at_ i _ h
  rw [hl] at e
  cases e
  refine ⟨⟨s.tr.b, same_upd s.bh h3, same_upd s.tr.h h4, s.tr.fr⟩, by rw [List.length_set]; exact s.len, fun j x e => ?_⟩
  rw [List.getElem?_set] at e
  by_cases q : i = j
  · subst q
    rw [if_pos rfl] at e
    by_cases z : i < δ.length
    · rw [if_pos z] at e
      cases e
      exact ⟨l, xs, hl, upd_same, hx, h3, h4⟩
    · rw [if_neg z] at e
      cases e
  · rw [if_neg q] at e
    have y := s.at_ j x e
    cases x with
    | no => trivial
    | raw v => exact y
    | val d => exact y
    | ml zs => exact absurd (oneMl_ne ho e).symm q
    | fact φ => exact absurd (oneMl_no ho e).symm q
/-- xs.append(e), xs a list of the def's own -/
theorem xn_app {i : Nat} (h : δ[i]? = some (.ml ds)) (he : VE K te δ d) (ho : oneMl δ i = true) (hl : ds.length ≤ 1000) : XN K (tDrop (tBM K "list" rAppend (tVar i) (tCons te tNil))) δ (δ.set i (.ml (ds ++ [d]))) := fun B0 H0 B H σ s D q => by
  obtain ⟨l, xs, e, h1, h2, h3, h4⟩ := s.at_ i _ h
  refine ⟨_, e, .inl ⟨rfl, xs, SqL.of h1⟩, he B0 H0 B H σ s _ fun v B1 H1 r dv => ?_⟩
  exact ⟨l, xs, v, rfl, rfl, r.h _ _ h1, by rw [dps_len h2]; exact small1000 hl, q B1 _ σ r.b ((s.step r).put h ho e (dps_snoc (dps_same r.b h2) dv))⟩
/-! ### 9. loops -/
theorem xn_for {wi : TI} {g : TG} (ds : List PyData) (δs : Nat → List Slot) (hw : VI K wi (δs 0) ds) (hs : ∀ (i : Nat) (d : PyData), ds[i]? = some d → ∃ is δ1, XG K g is d (δs i) δ1 ∧ XN K ts δ1 (δs (i + 1))) : XN K (tFor wi g ts) (δs 0) (δs ds.length) := fun B0 H0 B H σ s D q =>
  hw B0 H0 B H σ s _ fun J B1 H1 r wd => by
    obtain ⟨G, Y, w, hG, hY⟩ := wd.ex
    refine for_it w (fun i σ H => ∃ B, Same B1 B ∧ S K B0 H0 B H σ (δs i)) ⟨B1, Same.refl B1, s.step r⟩ (fun i σ H _ ⟨B, e, z⟩ => hG H (e.trans z.bh)) ?_ fun σ H ⟨B, e, z⟩ => q B H σ (r.b.trans e) z
    rintro i x σ H H' hi ⟨B, e, z⟩ y
    have ei : ds[i]? = some ds[i] := List.getElem?_eq_getElem hi
    obtain ⟨B2, r2, dx⟩ := hY i x B H H' _ e z.bh ei y
    obtain ⟨is, δ1, hg, hb⟩ := hs i _ ei
    exact hg B0 H0 B2 H' σ x (z.step r2) dx _ fun σ1 s1 _ => hb B0 H0 B2 H' σ1 s1 _ fun B3 H3 σ3 e3 s3 => ⟨B3, (e.trans r2.b).trans e3, s3⟩
theorem xn_forE {wi : TI} {g : TG} (ds : List PyData) (δs : Nat → List Slot) (h0 : δ = δs 0) (hn : δs ds.length = δ') (hw : VI K wi δ ds) (hs : ∀ (i : Nat) (d : PyData), ds[i]? = some d → ∃ is δ1, XG K g is d (δs i) δ1 ∧ XN K ts δ1 (δs (i + 1))) : XN K (tFor wi g ts) δ δ' := by
  subst h0 hn
  exact xn_for ds δs hw hs
/-- what is walked -/
theorem vi_list {tl : TE} (h : VE K tl δ (.list ds)) : VI K (iList K tl) δ ds := fun B0 H0 B H σ s R q =>
  h B0 H0 B H σ s _ fun v B1 H1 r dv => by
    cases dv with
    | @lst p xs _ sq da =>
      refine ⟨p, rfl, ⟨xs, r.bh.seq sq⟩, q _ B1 H1 r ⟨⟨_, _, (by rw [← dps_len da]; exact walk_list), fun H e => e.seq sq, ?_⟩⟩⟩
      rintro i x B2 H2 H3 d e1 e2 hd ⟨rfl, hx⟩
      obtain ⟨d', hd', dx⟩ := dps_at' da hx
      rw [hd] at hd'
      cases hd'
      exact ⟨B2, .refl e2, dp_same e1 dx⟩
theorem vi_tup {tl : TE} (h : VE K tl δ (.tuple ds)) : VI K (iTup K tl) δ ds := fun B0 H0 B H σ s R q =>
  h B0 H0 B H σ s _ fun v B1 H1 r dv => by
    cases dv with
    | @tup p xs _ sq da =>
      refine ⟨p, rfl, ⟨xs, seq_t r.bh sq⟩, q _ B1 H1 r ⟨⟨_, _, (by rw [← dps_len da]; exact walk_tup), fun H e => seq_t e sq, ?_⟩⟩⟩
      rintro i x B2 H2 H3 d e1 e2 hd ⟨rfl, hx⟩
      obtain ⟨d', hd', dx⟩ := dps_at' da hx
      rw [hd] at hd'
      cases hd'
      exact ⟨B2, .refl e2, dp_same e1 dx⟩
def upTo (n : Nat) : List PyData := (List.range n).map fun (i : Nat) => .int (i : Int)
theorem upTo_len (n : Nat) : (upTo n).length = n := by
  unfold upTo
  rw [List.length_map, List.length_range]
theorem upTo_at {n i : Nat} {d : PyData} (h : (upTo n)[i]? = some d) : d = .int (i : Int) ∧ i < n := by
  unfold upTo at h
  rw [List.getElem?_map] at h
  cases e : (List.range n)[i]? with
  | none => rw [e] at h; cases h
  | some j =>
    rw [e] at h
    cases h
    obtain ⟨h1, h2⟩ := List.getElem?_eq_some_iff.mp e
    rw [List.getElem_range] at h2
    rw [List.length_range] at h1
    subst h2
    exact ⟨rfl, h1⟩
theorem vi_range {n : Nat} (h : VA K t δ [.int (n : Int)]) (hn : n ≤ 1000) : VI K (iRng1 t) δ (upTo n) := fun B0 H0 B H σ s R q =>
  h B0 H0 B H σ s _ fun vs B1 H1 r dv => by
    cases dv with
    | cons a b =>
      cases a; cases b
      refine ⟨(n : Int), rfl, by omega, by omega, q _ B1 H1 r ⟨⟨fun _ => True, _, (by rw [upTo_len, Int.toNat_natCast]; exact walk_range), fun _ _ => trivial, ?_⟩⟩⟩
      rintro i x B2 H2 H3 d e1 e2 hd ⟨rfl, rfl⟩
      obtain ⟨rfl, _⟩ := upTo_at hd
      refine ⟨B2, .refl e2, ?_⟩
      show Dp K B2 (.int (0 + (i : Int))) (.int (i : Int))
      rw [Int.zero_add]
      exact .int _
def wipeD (δ : List Slot) : List Nat → List Slot
  | [] => δ
  | v :: vs => (wipeD δ vs).set v .no
theorem S.wipe {B0 H0 B H : Hp} {σ : L2.St} (s : S K B0 H0 B H σ δ) : ∀ vs : List Nat, S K B0 H0 B H (wipe σ vs) (wipeD δ vs)
  | [] => s
  | v :: vs => by
    have z := S.wipe s vs
    refine ⟨z.tr, by unfold L2.wipe wipeD; rw [List.length_set, List.length_set]; exact z.len, fun j y e => ?_⟩
    unfold wipeD at e
    unfold L2.wipe
    rw [List.getElem?_set] at e ⊢
    by_cases q : v = j
    · rw [if_pos q] at e
      by_cases w : v < (wipeD δ vs).length
      · rw [if_pos w] at e
        cases e
        trivial
      · rw [if_neg w] at e
        cases e
    · rw [if_neg q] at e ⊢
      exact z.at_ j y e
theorem wipe_get (σ : L2.St) (j : Nat) : ∀ vs : List Nat, (wipe σ vs)[j]? = if j ∈ vs then σ[j]?.map (fun _ => none) else σ[j]?
  | [] => by rw [if_neg (by simp)]; rfl
  | v :: vs => by
    have ih := wipe_get σ j vs
    unfold L2.wipe
    rw [List.getElem?_set]
    by_cases q : v = j
    · subst q
      rw [if_pos rfl, if_pos List.mem_cons_self, wipe_length]
      by_cases w : v < σ.length
      · rw [if_pos w, List.getElem?_eq_getElem w]
        rfl
      · rw [if_neg w, List.getElem?_eq_none (by omega)]
        rfl
    · rw [if_neg q, ih]
      by_cases m : j ∈ vs
      · rw [if_pos m, if_pos (List.mem_cons_of_mem _ m)]
      · rw [if_neg m, if_neg (fun z => (List.mem_cons.mp z).elim (fun z => q z.symm) m)]
theorem wipe_only {σ σ' : L2.St} {is vs : List Nat} (h : Only is (wipe σ vs) σ') (hs : ∀ i ∈ is, i ∈ vs) : wipe σ' vs = wipe σ vs := by
  apply List.ext_getElem?
  intro j
  rw [wipe_get, wipe_get]
  by_cases m : j ∈ vs
  · rw [if_pos m, if_pos m]
    have hl : σ'.length = σ.length := h.1.trans (wipe_length σ vs)
    by_cases w : j < σ.length
    · rw [List.getElem?_eq_getElem w, List.getElem?_eq_getElem (by rw [hl]; exact w)]
      rfl
    · rw [List.getElem?_eq_none (by omega), List.getElem?_eq_none (by omega)]
  · rw [if_neg m, if_neg m, h.2 j (fun z => m (hs j z)), wipe_get, if_neg m]
/-- [e for x in xs] -/
theorem vl_lc {α : Type} {wi : TI} {g : TG} {vs : List Nat} (xs : List α) (G F : α → PyData) (hw : VI K wi δ (xs.map G)) (hl : xs.length ≤ 1000)
    (hs : ∀ x, x ∈ xs → ∃ is δ1, (∀ i ∈ is, i ∈ vs) ∧ XG K g is (G x) (wipeD δ vs) δ1 ∧ VT K c δ1 true ∧ VE K te δ1 (F x)) : VL K (tLc wi g c te vs) δ (xs.map F) := fun B0 H0 B H σ s Q q =>
  hw B0 H0 B H σ s _ fun J B1 H1 r wd D hD => by
    obtain ⟨Gd, Y, w, hG, hY⟩ := wd.ex
    have hlen : (xs.map G).length = xs.length := List.length_map ..
    refine lc_it w (fun i H' => ∃ B2 acc, Tr B1 H1 B2 H' ∧ B2 D = none ∧ H' D = some (.lst acc) ∧ DpAll K B2 acc ((xs.take i).map F)) ⟨B1, [], .grow r.bh (same_upd (Same.refl H1) hD), r.bh.free hD, upd_same, .nil⟩ (fun i H' _ ⟨B2, acc, z, _⟩ => hG H' (z.b.trans z.bh)) ?_ ?_
    · rintro i x H2 H3 hi ⟨B2, acc, z, hB, hA, da⟩ y
      rw [hlen] at hi
      have ei : (xs.map G)[i]? = some (G xs[i]) := by rw [List.getElem?_map, List.getElem?_eq_getElem hi]; rfl
      obtain ⟨B3, r3, dx⟩ := hY i x B2 H2 H3 _ z.b z.bh ei y
      obtain ⟨is, δ1, hin, hg, ht, he⟩ := hs xs[i] (List.getElem_mem hi)
      have s3 : S K B0 H0 B3 H3 (wipe σ vs) (wipeD δ vs) := ((s.step r).step (z.trans r3)).wipe vs
      refine hg B0 H0 B3 H3 (wipe σ vs) x s3 dx _ fun σ1 s4 o1 => ⟨wipe_only o1 hin, ?_⟩
      refine ht B0 H0 B3 H3 σ1 s4 _ fun B4 H4 r4 => iteT (he B0 H0 B4 H4 σ1 (s4.step r4) _ fun v B5 H5 r5 dv => ?_)
      have rr : Tr B2 H2 B5 H5 := (r3.trans r4).trans r5
      have hA5 : H5 D = some (.lst acc) := rr.h _ _ hA
      have hB5 : B5 D = none := rr.out hB hA
      refine ⟨acc, hA5, ?_, B5, acc ++ [v], ⟨(z.trans rr).b, same_upd rr.bh hB5, same_upd (z.trans rr).h hD, (z.trans rr).fr⟩, hB5, upd_same, ?_⟩
      · rw [dps_len da, List.length_map, List.length_take]
        exact small1000 (by omega)
      · rw [List.take_add_one, List.getElem?_eq_getElem hi, List.map_append]
        exact dps_snoc (dps_same rr.b da) dv
    · rintro H' ⟨B2, acc, z, hB, hA, da⟩
      rw [hlen, List.take_length] at da
      exact q D acc B2 H' (r.trans z) (r.h.free hD) hB hA da
theorem vt_yes : VT K tYes δ true := fun _ _ B H _ s _ q => q B H (.refl s.bh)
/-! ### 10. lists, texts -/
theorem rl_slL {lo hi : Option Int} {B H : Hp} {x : V} (e : Same B H) (dx : Dp K B x (.list ds)) {Q : VK} (q : ∀ p xs B' H', Tr B H B' H' → H p = none → B' p = none → H' p = some (.lst xs) → DpAll K B' xs ((ds.drop (HT.sIx ds.length 0 lo)).take (HT.sIx ds.length ds.length hi - HT.sIx ds.length 0 lo)) → Q (.ref p) H') : rSlL K x lo hi H Q := by
  cases dx with
  | @lst p xs _ sq da =>
    refine ⟨p, xs, rfl, e.seq sq, fun l hl => q l _ B _ (.grow e (same_upd (Same.refl H) hl)) hl (e.free hl) upd_same ?_⟩
    unfold cutV
    rw [dps_len da]
    exact dps_take _ (dps_drop _ da)
theorem vl_slice {tl th : TO} {lo hi : Option Int} (h : VE K te δ (.list ds)) (hl : VO K tl δ lo) (hh : VO K th δ hi) : VL K (tSl (rSlL K) te tl th) δ ((ds.drop (HT.sIx ds.length 0 lo)).take (HT.sIx ds.length ds.length hi - HT.sIx ds.length 0 lo)) := fun B0 H0 B H σ s Q q =>
  h B0 H0 B H σ s _ fun x B1 H1 t1 dx => hl B0 H0 B1 H1 σ (s.step t1) _ fun B2 H2 t2 => hh B0 H0 B2 H2 σ ((s.step t1).step t2) _ fun B3 H3 t3 =>
    rl_slL t3.bh (dp_same t3.b (dp_same t2.b dx)) fun p xs B4 H4 t4 n m e dv => q p xs B4 H4 (((t1.trans t2).trans t3).trans t4) (((t1.trans t2).trans t3).h.free n) m e dv
theorem rcl_list (hl : ds.length ≤ 1000) : RCL K (fun xs H Q => ∃ p ys, xs = [.ref p] ∧ (SqL K H p ys ∨ SqT K H p ys) ∧ ∀ l, H l = none → Q (.ref l) (upd H l (.lst ys))) [.list ds] ds := fun B H vs e dv Q q => by
  cases dv with
  | cons a b =>
    cases b
    cases a with
    | @lst p xs _ sq da => exact ⟨p, xs, rfl, .inl (e.seq sq), fun l hl => q l xs B _ (.grow e (same_upd (Same.refl H) hl)) hl (e.free hl) upd_same da⟩
theorem rcl_listT (hl : ds.length ≤ 1000) : RCL K (fun xs H Q => ∃ p ys, xs = [.ref p] ∧ (SqL K H p ys ∨ SqT K H p ys) ∧ ∀ l, H l = none → Q (.ref l) (upd H l (.lst ys))) [.tuple ds] ds := fun B H vs e dv Q q => by
  cases dv with
  | cons a b =>
    cases b
    cases a with
    | @tup p xs _ sq da => exact ⟨p, xs, rfl, .inr (seq_t e sq), fun l hl => q l xs B _ (.grow e (same_upd (Same.refl H) hl)) hl (e.free hl) upd_same da⟩
theorem rc_tuple : RC K (fun xs H Q => ∃ p ys, xs = [.ref p] ∧ ((SqL K H p ys ∧ ∀ l, H l = none → Q (.ref l) (upd H l (.tup ys))) ∨ (SqT K H p ys ∧ Q (.ref p) H))) [.list ds] (.tuple ds) := fun B H vs e dv Q q => by
  cases dv with
  | cons a b =>
    cases b
    cases a with
    | @lst p xs _ sq da => exact ⟨p, xs, rfl, .inl ⟨e.seq sq, fun l hl => q _ (upd B l (.tup xs)) _ ((Tr.grow e (same_upd (Same.refl H) hl)).still hl (e.free hl) upd_same) (.tup (SqT.of upd_same) (dps_same (same_upd (Same.refl B) (e.free hl)) da))⟩⟩
theorem vl_cat (ha : VL K ta δ ds) (hb : VL K tb δ es) (hz : ds.length + es.length ≤ 1000) : VL K (tOp rCat ta tb) δ (ds ++ es) := fun B0 H0 B H σ s Q q =>
  ha B0 H0 B H σ s _ fun p xs B1 H1 t1 n1 m1 e1 d1 => hb B0 H0 B1 H1 σ (s.step t1) _ fun p2 ys B2 H2 t2 n2 m2 e2 d2 =>
    ⟨p, p2, xs, ys, rfl, rfl, t2.h _ _ e1, e2, by rw [dps_len d1, dps_len d2]; exact Nat.le_of_lt (small1000 hz), fun l hl =>
      q l _ B2 _ ((t1.trans t2).trans (.grow t2.bh (same_upd (Same.refl H2) hl))) ((t1.trans t2).h.free hl) (t2.bh.free hl) upd_same (dps_app (dps_same t2.b d1) d2)⟩
end
section
variable {K : PySem.W.Frag} {δ : List Slot} {te : TE} {a d : PyData} {ds es : List PyData}
theorem rd_inL' {w : V} {ws : List V} (h1 : flatD a = some w) (h2 : ds.mapM flatD = some ws) : RD K (rIn K false) a (.list ds) (.bool (inV w ws)) := rd_inL h1 h2
theorem rd_inT' {w : V} {ws : List V} (h1 : flatD a = some w) (h2 : ds.mapM flatD = some ws) : RD K (rIn K false) a (.tuple ds) (.bool (inV w ws)) := rd_inT h1 h2
theorem rd_niL' {w : V} {ws : List V} (h1 : flatD a = some w) (h2 : ds.mapM flatD = some ws) : RD K (rIn K true) a (.list ds) (.bool (!inV w ws)) := rd_inL h1 h2
theorem rd_niT' {w : V} {ws : List V} (h1 : flatD a = some w) (h2 : ds.mapM flatD = some ws) : RD K (rIn K true) a (.tuple ds) (.bool (!inV w ws)) := rd_inT h1 h2
theorem rc_len : RC K (fun xs H Q => ∃ p ys, xs = [.ref p] ∧ (SqL K H p ys ∨ SqT K H p ys) ∧ Q (.int ys.length) H) [.list ds] (.int (ds.length : Int)) := fun B H vs e dv Q q => by
  cases dv with
  | cons a b =>
    cases b
    cases a with
    | @lst p xs _ sq da => exact ⟨p, xs, rfl, .inl (e.seq sq), q _ B H (.refl e) (by rw [dps_len da]; exact .int _)⟩
theorem rc_lenT : RC K (fun xs H Q => ∃ p ys, xs = [.ref p] ∧ (SqL K H p ys ∨ SqT K H p ys) ∧ Q (.int ys.length) H) [.tuple ds] (.int (ds.length : Int)) := fun B H vs e dv Q q => by
  cases dv with
  | cons a b =>
    cases b
    cases a with
    | @tup p xs _ sq da => exact ⟨p, xs, rfl, .inr (seq_t e sq), q _ B H (.refl e) (by rw [dps_len da]; exact .int _)⟩
theorem rc_int1 {k : Bool} : RC K (fun xs H Q => (∃ i, xs = [.int i] ∧ Q (.int i) H) ∨ ∃ k, xs = [.bl k] ∧ Q (.int (if k then 1 else 0)) H) [.bool k] (.int (if k = true then 1 else 0)) := fun B H vs e dv Q q => by
  cases dv with
  | cons a b =>
    cases b; cases a
    exact .inr ⟨k, rfl, q _ B H (.refl e) (.int _)⟩
/-- the type's name of a datum -/
def tyN : PyData → String
  | .none => "NoneType"
  | .bool _ => "bool"
  | .int _ => "int"
  | .str _ => "str"
  | .list _ => "list"
  | _ => "tuple"
theorem ty_of {B H : Hp} {v : V} (e : Same B H) (h : Dp K B v d) : TyX K H v (.type (tyN d)) := by
  cases h with
  | non => exact .base .non
  | bl b => exact .base (.bl b)
  | int i => exact .base (.int i)
  | str x => exact .base (.str x)
  | lst s a =>
    rcases e.seq s with (h | ⟨o, h⟩) | ⟨o, its, n, h1, h2, _⟩
    · exact .base (.lst h)
    · exact .base (.frz h)
    · exact .kList h1 h2
  | tup s a =>
    rcases seq_t e s with (h | ⟨o, h⟩) | ⟨o, its, n, h1, h2, _⟩
    · exact .base (.tup h)
    · exact .fTuple h
    · exact .kTuple h1 h2
theorem ve_isi {n n0 : String} {r : Bool} (h : VE K te δ d) (ht : tyN d = n0) (hk : kitB n0 n = some r) : VE K (tCB (rIsi K) (tCons te (tCons (tC (.ty n)) tNil))) δ (.bool r) := fun B0 H0 B H σ s Q q =>
  h B0 H0 B H σ s _ fun v B1 H1 t1 dv => ⟨v, .ty n, _, _, r, rfl, .ty n, ty_of t1.bh dv, by rw [ht]; exact kit_ty hk, q _ B1 H1 t1 (.bl r)⟩
end
section
variable {K : PySem.W.Frag} {δ δ' δ1 : List Slot} {ta te : TE} {a d : PyData} {ds es : List PyData} {ts : TS}
/-- x in l, l a list of the def's own -/
theorem ve_inM {neg : Bool} {i : Nat} {w : V} {ws : List V} (h : δ[i]? = some (.ml ds)) (ha : VE K ta δ a) (h1 : flatD a = some w) (h2 : ds.mapM flatD = some ws) : VE K (tOp (rIn K neg) ta (tVar i)) δ (.bool (if neg then !inV w ws else inV w ws)) := fun B0 H0 B H σ s Q q =>
  ha B0 H0 B H σ s _ fun x B1 H1 t1 dx => by
    obtain ⟨l, xs, e, hl, hd, h3, h4⟩ := s.at_ i _ h
    obtain ⟨rfl, z1⟩ := flat_dp h1 dx
    obtain ⟨rfl, z2⟩ := flat_dps h2 hd
    exact ⟨_, e, l, xs, rfl, .inl (SqL.of (t1.h _ _ hl)), z1, z2, q _ B1 H1 t1 (.bl _)⟩
theorem ve_niM {i : Nat} {w : V} {ws : List V} (h : δ[i]? = some (.ml ds)) (ha : VE K ta δ a) (h1 : flatD a = some w) (h2 : ds.mapM flatD = some ws) : VE K (tOp (rIn K true) ta (tVar i)) δ (.bool (!inV w ws)) := ve_inM h ha h1 h2
/-- some slots forgotten -/
def Weak : List Slot → List Slot → Prop
  | [], [] => True
  | a :: r, b :: q => (b = .no ∨ b = a) ∧ Weak r q
  | _, _ => False
theorem Weak.len : ∀ {δ δ' : List Slot}, Weak δ δ' → δ'.length = δ.length
  | [], [], _ => rfl
  | _ :: _, _ :: _, h => by rw [List.length_cons, List.length_cons, Weak.len h.2]
  | [], _ :: _, h => h.elim
  | _ :: _, [], h => h.elim
theorem Weak.at_ : ∀ {δ δ' : List Slot}, Weak δ δ' → ∀ (i : Nat) (s : Slot), δ'[i]? = some s → s = .no ∨ δ[i]? = some s
  | [], [], _, i, s, e => by simp at e
  | a :: r, b :: q, h, 0, s, e => by
    rw [List.getElem?_cons_zero] at e ⊢
    cases e
    rcases h.1 with z | z
    · exact .inl z
    · exact .inr (by rw [z])
  | a :: r, b :: q, h, i + 1, s, e => by
    rw [List.getElem?_cons_succ] at e ⊢
    exact Weak.at_ h.2 i s e
  | [], _ :: _, h, _, _, _ => h.elim
  | _ :: _, [], h, _, _, _ => h.elim
theorem S.weak {B0 H0 B H : Hp} {σ : L2.St} (s : S K B0 H0 B H σ δ) (w : Weak δ δ') : S K B0 H0 B H σ δ' := ⟨s.tr, by rw [w.len]; exact s.len, fun i x e => by
  rcases w.at_ i x e with z | z
  · subst z
    trivial
  · exact s.at_ i x z⟩
theorem XN.weak (h : XN K ts δ δ1) (w : Weak δ1 δ') : XN K ts δ δ' := fun B0 H0 B H σ s D q => h B0 H0 B H σ s D fun B1 H1 σ1 e1 s1 => q B1 H1 σ1 e1 (s1.weak w)
theorem xn_for0 {wi : TI} {g : TG} (hw : VI K wi δ []) : XN K (tFor wi g ts) δ δ := xn_for [] (fun _ => δ) hw fun i d h => by simp at h
theorem flat_strs : ∀ l : List Str, (l.map PyData.str).mapM flatD = some (l.map V.str)
  | [] => rfl
  | x :: l => by
    rw [List.map_cons, List.mapM_cons, flat_strs l]
    rfl
theorem inV_strs (n : Str) : ∀ l : List Str, inV (.str n) (l.map V.str) = decide (n ∈ l)
  | [] => by
    rw [decide_eq_false (by simp)]
    rfl
  | x :: l => by
    have ih := inV_strs n l
    unfold inV at ih ⊢
    rw [List.map_cons, List.any_cons, ih]
    show ((x == n) || _) = _
    by_cases e : x = n
    · subst e
      rw [beq_self_eq_true, Bool.true_or, decide_eq_true List.mem_cons_self]
    · rw [beq_eq_false_iff_ne.mpr e, Bool.false_or]
      by_cases m : n ∈ l
      · rw [decide_eq_true m, decide_eq_true (List.mem_cons_of_mem _ m)]
      · rw [decide_eq_false m, decide_eq_false (fun z => (List.mem_cons.mp z).elim (fun z => e z.symm) m)]
end
/-! ### 11. a def that only makes data keeps its promise -/
def startD (N : List Str) (ds : List PyData) : List Slot := ds.map .val ++ List.replicate (N.length - ds.length) .no
theorem start_S {K : PySem.W.Frag} {N : List Str} {B H : Hp} {vs : List V} {ds : List PyData} (e : Same B H) (h : DpAll K B vs ds) : S K B H B H (L2.start N vs) (startD N ds) := by
  refine ⟨.refl e, ?_, fun i x hx => ?_⟩
  · unfold L2.start startD
    rw [List.length_append, List.length_append, List.length_map, List.length_map, List.length_replicate, List.length_replicate, dps_len h]
  · unfold startD at hx
    unfold L2.start
    rw [List.getElem?_append] at hx ⊢
    rw [List.length_map] at hx ⊢
    rw [dps_len h]
    by_cases q : i < ds.length
    · rw [if_pos q] at hx ⊢
      rw [List.getElem?_map] at hx ⊢
      cases e1 : ds[i]? with
      | none => rw [e1] at hx; cases hx
      | some d =>
        rw [e1] at hx
        cases hx
        obtain ⟨v, ev, dv⟩ := dps_at h e1
        rw [ev]
        exact ⟨v, rfl, dv⟩
    · rw [if_neg q] at hx
      have z := List.mem_of_getElem? hx
      rw [List.mem_replicate] at z
      rw [z.2]
      trivial
/-! ### 12. arguments that are no data -/
/-- a value, by its slot -/
def VS (K : PySem.W.Frag) (te : TE) (δ : List Slot) (x : Slot) : Prop :=
  ∀ B0 H0 B H σ, S K B0 H0 B H σ δ → ∀ Q : VK, (∀ v B' H', Tr B H B' H' → SlotOk K H' B' H' x (some (some v)) → Q v H') → te σ H Q
inductive SAll (K : PySem.W.Frag) (B H : Hp) : List V → List Slot → Prop
  | nil : SAll K B H [] []
  | cons {v : V} {vs : List V} {x : Slot} {xs : List Slot} : SlotOk K H B H x (some (some v)) → SAll K B H vs xs → SAll K B H (v :: vs) (x :: xs)
def VSA (K : PySem.W.Frag) (ta : TA) (δ : List Slot) (xs : List Slot) : Prop :=
  ∀ B0 H0 B H σ, S K B0 H0 B H σ δ → ∀ Q : List V → Hp → Prop, (∀ vs B' H', Tr B H B' H' → SAll K B' H' vs xs → Q vs H') → ta σ H Q
theorem SlotOk.again {K : PySem.W.Frag} {B H B' H' : Hp} {x : Slot} {v : V} (h : SlotOk K H B H x (some (some v))) (t : Tr B H B' H') : SlotOk K H' B' H' x (some (some v)) := by
  cases x with
  | no => trivial
  | raw u => exact h
  | val d =>
    obtain ⟨v, e, q⟩ := h
    exact ⟨v, e, dp_same t.b q⟩
  | ml ds =>
    obtain ⟨l, xs, e, h1, h2, h3, h4⟩ := h
    rw [h1] at h4
    cases h4
  | fact φ =>
    obtain ⟨v, e, q, k⟩ := h
    exact ⟨v, e, k _ _ _ _ _ t q, k⟩
section
variable {K : PySem.W.Frag} {δ : List Slot} {ta tb te : TE} {t : TA} {d : PyData} {x : Slot} {xs : List Slot} {φ : V → Hp → Hp → Prop}
theorem VE.vs (h : VE K te δ d) : VS K te δ (.val d) := fun B0 H0 B H σ s Q q => h B0 H0 B H σ s Q fun v B1 H1 t1 dv => q v B1 H1 t1 ⟨v, rfl, dv⟩
theorem vs_var {i : Nat} (h : δ[i]? = some (.fact φ)) : VS K (tVar i) δ (.fact φ) := fun B0 H0 B H σ s Q q => by
  obtain ⟨v, e, p, k⟩ := s.at_ i _ h
  exact ⟨v, e, q v B H (.refl s.bh) ⟨v, rfl, p, k⟩⟩
theorem vsa_nil : VSA K tNil δ [] := fun _ _ B H _ s _ q => q [] B H (.refl s.bh) .nil
theorem SAll.again {B H B' H' : Hp} (r : Tr B H B' H') : ∀ {vs : List V} {xs : List Slot}, SAll K B H vs xs → SAll K B' H' vs xs
  | _, _, .nil => .nil
  | _, _, .cons h a => .cons (h.again r) (SAll.again r a)
theorem vsa_cons (h : VS K te δ x) (ht : VSA K t δ xs) : VSA K (tCons te t) δ (x :: xs) := fun B0 H0 B H σ s Q q =>
  h B0 H0 B H σ s _ fun v B1 H1 t1 hv => ht B0 H0 B1 H1 σ (s.step t1) _ fun vs B2 H2 t2 hs => q _ B2 H2 (t1.trans t2) (.cons (hv.again t2) hs)
end
/-- a def that reads and makes data -/
def spS (K : PySem.W.Frag) (R : List Slot → PyData → Prop) : Sp := fun vs H Q _ => ∃ B xs d, Same B H ∧ SAll K B H vs xs ∧ R xs d ∧ ∀ v B' H', Tr B H B' H' → Dp K B' v d → Q v H'
section
variable {K : PySem.W.Frag} {δ : List Slot} {t : TA} {d : PyData} {xs : List Slot} {R : List Slot → PyData → Prop} {E : XK}
theorem ve_callS (h : VSA K t δ xs) (hr : R xs d) : VE K (tCall (spS K R) [] E t) δ d := fun B0 H0 B H σ s Q q =>
  h B0 H0 B H σ s _ fun vs B1 H1 t1 hs => ⟨B1, xs, d, t1.bh, by rw [List.append_nil]; exact hs, hr, fun v B2 H2 t2 dv => q v B2 H2 (t1.trans t2) dv⟩
theorem SAll.len {B H : Hp} : ∀ {vs : List V} {xs : List Slot}, SAll K B H vs xs → vs.length = xs.length
  | _, _, .nil => rfl
  | _, _, .cons _ a => by rw [List.length_cons, List.length_cons, SAll.len a]
theorem SAll.at_ {B H : Hp} : ∀ {vs : List V} {xs : List Slot} {i : Nat} {x : Slot}, SAll K B H vs xs → xs[i]? = some x → SlotOk K H B H x ((vs.map some)[i]?)
  | _, _, _, _, .nil, h => by simp at h
  | _, _, 0, _, .cons a _, h => by
    rw [List.getElem?_cons_zero] at h
    cases h
    exact a
  | _, _, i + 1, _, .cons _ b, h => by
    rw [List.getElem?_cons_succ] at h
    rw [List.map_cons, List.getElem?_cons_succ]
    exact SAll.at_ b h
end
def startS (N : List Str) (xs : List Slot) : List Slot := xs ++ List.replicate (N.length - xs.length) .no
theorem start_SS {K : PySem.W.Frag} {N : List Str} {B H : Hp} {vs : List V} {xs : List Slot} (e : Same B H) (h : SAll K B H vs xs) : S K B H B H (L2.start N vs) (startS N xs) := by
  refine ⟨.refl e, ?_, fun i x hx => ?_⟩
  · unfold L2.start startS
    rw [List.length_append, List.length_append, List.length_map, List.length_replicate, List.length_replicate, h.len]
  · unfold startS at hx
    unfold L2.start
    rw [List.getElem?_append] at hx ⊢
    rw [List.length_map, h.len]
    by_cases q : i < xs.length
    · rw [if_pos q] at hx ⊢
      exact h.at_ hx
    · rw [if_neg q] at hx
      have z := List.mem_of_getElem? hx
      rw [List.mem_replicate] at z
      rw [z.2]
      trivial
theorem SAll.rw_ {K : PySem.W.Frag} {B H : Hp} {v : V} {vs : List V} {xs : List Slot} (h : SAll K B H vs xs) : SAll K B H (v :: vs) (.raw v :: xs) := .cons (x := .raw v) rfl h
theorem SAll.vl {K : PySem.W.Frag} {B H : Hp} {v : V} {d : PyData} {vs : List V} {xs : List Slot} (dv : Dp K B v d) (h : SAll K B H vs xs) : SAll K B H (v :: vs) (.val d :: xs) := .cons (x := .val d) ⟨v, rfl, dv⟩ h
theorem SAll.ft {K : PySem.W.Frag} {B H : Hp} {v : V} {φ : V → Hp → Hp → Prop} {vs : List V} {xs : List Slot} (p : φ v B H) (k : Keeps φ) (h : SAll K B H vs xs) : SAll K B H (v :: vs) (.fact φ :: xs) := .cons (x := .fact φ) ⟨v, rfl, p, k⟩ h
/-! ### a statement, then the rest, by hand -/
section
variable {K : PySem.W.Frag} {te ta tv : TE} {tz tu tw : TS} {D : Ends} {σ : L2.St} {H : Hp} {g : TG} {c : TT}
theorem h_seq {ts : TS} (h : ts { D with nx := tz D } σ H) : tSeq ts tz D σ H := h
theorem h_asg {i : Nat} (h : te σ H fun x H1 => tz D (σ.set i (some x)) H1) : tSeq (tAsg te (gName i)) tz D σ H := h
theorem h_asgG (h : te σ H fun x H1 => g x σ H1 (tz D)) : tSeq (tAsg te g) tz D σ H := h
theorem h_drop (h : te σ H fun _ H1 => tz D σ H1) : tSeq (tDrop te) tz D σ H := h
theorem h_fld {f : Str} (h : tv σ H fun y H1 => ta σ H1 fun x H2 => ∃ a C dx fs, x = .ref a ∧ H2 a = some (.ins C dx fs) ∧ Cls K C ∧ NoAttr K C f ∧ fs.length < 1000 ∧ tz D σ (upd H2 a (.ins C dx (putF f y fs)))) : tSeq (sFld K ta tv f) tz D σ H := h
theorem h_fld1 {f : Str} (h : tv σ H fun y H1 => ta σ H1 fun x H2 => ∃ a C dx fs, x = .ref a ∧ H2 a = some (.ins C dx fs) ∧ Cls K C ∧ NoAttr K C f ∧ fs.length < 1000 ∧ D.nx σ (upd H2 a (.ins C dx (putF f y fs)))) : sFld K ta tv f D σ H := h
theorem h_dput {td ty : TE} (h : tv σ H fun v H1 => td σ H1 fun x H2 => ty σ H2 fun y H3 => ∃ a H4, x = .ref a ∧ DPut H3 a y v H4 ∧ tz D σ H4) : tSeq (sDPut td ty tv) tz D σ H := h
theorem h_if (h : c σ H fun b H1 => if b = true then tu { D with nx := tz D } σ H1 else tw { D with nx := tz D } σ H1) : tSeq (tIfS c tu tw) tz D σ H := h
theorem h_lst1 {Q : VK} (h : te σ H fun x H1 => 1 ≤ sizeLine ∧ ∀ p, H1 p = none → Q (.ref p) (upd H1 p (.lst [x]))) : tLst (tCons te tNil) σ H Q := h
theorem h_make {C : Addr} {sp : Sp} {dvs : List V} {E : XK} {t : TA} {Q : VK} (h : t σ H fun vs H1 => ∀ x dx, H1 x = none → H1 dx = none → dx ≠ x → sp (.ref x :: (vs ++ dvs)) (upd (upd H1 dx (.own x)) x (.ins C dx [])) (fun v H2 => v = .non ∧ Q (.ref x) H2) E) : tMake C sp dvs E t σ H Q := h
theorem h_call {sp : Sp} {dvs : List V} {E : XK} {t : TA} {Q : VK} (h : t σ H fun vs H1 => sp (vs ++ dvs) H1 Q E) : tCall sp dvs E t σ H Q := h
theorem h_meth {C : Addr} {m : Str} {sp : Sp} {dvs : List V} {E : XK} {t : TA} {Q : VK} (h : ta σ H fun x H1 => ∃ a dx fs, x = .ref a ∧ H1 a = some (.ins C dx fs) ∧ fs.lookup m = none ∧ t σ H1 fun vs H2 => sp (x :: (vs ++ dvs)) H2 Q E) : tMeth C m sp dvs E ta t σ H Q := h
/-- an if that is not taken -/
theorem h_no (h : c σ H fun b H1 => b = false ∧ tz D σ H1) (mono : ∀ Q Q' : Bool → Hp → Prop, (∀ b H1, Q b H1 → Q' b H1) → c σ H Q → c σ H Q') : tSeq (tIfS c tu tNext) tz D σ H :=
  mono _ _ (fun b H1 ⟨e, q⟩ => by
    subst e
    exact iteF q) h
end
/-! ### 13. behind a change -/
/-- all but b is as it was -/
def Keep (b : Addr) (H H' : Hp) : Prop := ∀ a o, H a = some o → a ≠ b → H' a = some o
theorem Keep.refl {b : Addr} {H : Hp} : Keep b H H := fun _ _ h _ => h
theorem Keep.trans {b : Addr} {H H1 H2 : Hp} (x : Keep b H H1) (y : Keep b H1 H2) : Keep b H H2 := fun a o h n => y a o (x a o h n) n
theorem Keep.of {b : Addr} {H H' : Hp} (x : Same H H') : Keep b H H' := fun a o h _ => x a o h
theorem Keep.upd {b : Addr} {H : Hp} {o : HO} : Keep b H (upd H b o) := fun a u h n => by rw [upd_ne n]; exact h
theorem Keep.base {b : Addr} {B H H' : Hp} (x : Keep b H H') (e : Same B H) (n : B b = none) : Same B H' := fun a o h => x a o (e a o h) (ne_of_none h n)
/-- values and data alone -/
def plainS : List Slot → Bool
  | [] => true
  | .ml _ :: _ => false
  | .fact _ :: _ => false
  | _ :: r => plainS r
theorem plainS_at : ∀ {δ : List Slot} {i : Nat} {x : Slot}, plainS δ = true → δ[i]? = some x → (∀ ds, x ≠ .ml ds) ∧ ∀ φ, x ≠ .fact φ
  | [], _, _, _, h => by simp at h
  | y :: r, 0, x, p, h => by
    rw [List.getElem?_cons_zero] at h
    have h := Option.some.inj h
    subst h
    cases y with
    | no => exact ⟨(fun _ z => nomatch z), (fun _ z => nomatch z)⟩
    | raw v => exact ⟨(fun _ z => nomatch z), (fun _ z => nomatch z)⟩
    | val d => exact ⟨(fun _ z => nomatch z), (fun _ z => nomatch z)⟩
    | ml ds => cases p
    | fact φ => cases p
  | y :: r, i + 1, x, p, h => by
    rw [List.getElem?_cons_succ] at h
    refine plainS_at (δ := r) ?_ h
    cases y with
    | no => exact p
    | raw v => exact p
    | val d => exact p
    | ml ds => cases p
    | fact φ => cases p
theorem S.re {K : PySem.W.Frag} {B0 H0 B H H' : Hp} {σ : L2.St} {δ : List Slot} (s : S K B0 H0 B H σ δ) (p : plainS δ = true) (e : Same B H') : S K B H' B H' σ δ := by
  refine ⟨.refl e, s.len, fun i x h => ?_⟩
  have z := s.at_ i x h
  obtain ⟨p1, p2⟩ := plainS_at p h
  cases x with
  | no => trivial
  | raw v => exact z
  | val d => exact z
  | ml ds => exact absurd rfl (p1 ds)
  | fact φ => exact absurd rfl (p2 φ)
section
variable {K : PySem.W.Frag} {δ : List Slot} {ta tb : TE} {ds es : List PyData}
def zipD (ds es : List PyData) : List PyData := List.zipWith (fun a b => .tuple [a, b]) ds es
def enumD (ds : List PyData) : List PyData := zipD (upTo ds.length) ds
theorem zipD_len (h : ds.length = es.length) : (zipD ds es).length = ds.length := by
  unfold zipD
  rw [List.length_zipWith, h, Nat.min_self]
theorem zipD_at {i : Nat} {d : PyData} (h : (zipD ds es)[i]? = some d) : ∃ a b, ds[i]? = some a ∧ es[i]? = some b ∧ d = .tuple [a, b] := by
  unfold zipD at h
  rw [List.getElem?_zipWith] at h
  cases e1 : ds[i]? with
  | none => rw [e1] at h; cases h
  | some a =>
    cases e2 : es[i]? with
    | none => rw [e1, e2] at h; cases h
    | some b =>
      rw [e1, e2] at h
      cases h
      exact ⟨a, b, rfl, rfl, rfl⟩
theorem pair_dp {B1 H1 : Hp} {T : Addr} {x y : V} {a b : PyData} (e : Same B1 H1) (n : H1 T = none) (dx : Dp K B1 x a) (dy : Dp K B1 y b) : ∃ B2, Tr B1 H1 B2 (upd H1 T (.tup [x, y])) ∧ Dp K B2 (.ref T) (.tuple [a, b]) :=
  ⟨upd B1 T (.tup [x, y]), (Tr.grow e (same_upd (Same.refl H1) n)).still n (e.free n) upd_same, .tup (SqT.of upd_same) (dps_same (same_upd (Same.refl B1) (e.free n)) (.cons dx (.cons dy .nil)))⟩
theorem vi_zip (ha : VE K ta δ (.list ds)) (hb : VE K tb δ (.list es)) (hl : ds.length = es.length) : VI K (iZip K (tCons ta (tCons tb tNil))) δ (zipD ds es) := fun B0 H0 B H σ s R q =>
  ha B0 H0 B H σ s _ fun x B1 H1 t1 dx => hb B0 H0 B1 H1 σ (s.step t1) _ fun y B2 H2 t2 dy => by
    cases dx with
    | @lst p xs _ s1 da =>
      cases dy with
      | @lst p2 ys _ s2 db =>
        have s1' : SqL K B2 p xs := t2.b.seq s1
        have lx := dps_len da
        have ly := dps_len db
        refine ⟨p, p2, xs, ys, rfl, t2.bh.seq s1', t2.bh.seq s2, q _ B2 H2 (t1.trans t2) ⟨⟨_, _, walk_zip (by rw [zipD_len hl, lx, ly, hl, Nat.min_self]), fun H e => ⟨e.seq s1', e.seq s2⟩, ?_⟩⟩⟩
        rintro i v B3 H3 H4 d e1 e2 hd ⟨T, u, z, rfl, n, rfl, h1, h2⟩
        obtain ⟨a, b, ha, hb, rfl⟩ := zipD_at hd
        obtain ⟨a', ha', dxa⟩ := dps_at' da h1
        obtain ⟨b', hb', dyb⟩ := dps_at' db h2
        rw [ha] at ha'
        rw [hb] at hb'
        cases ha'
        cases hb'
        exact pair_dp e2 n (dp_same (t2.b.trans e1) dxa) (dp_same e1 dyb)
theorem vi_enum (ha : VE K ta δ (.list ds)) : VI K (iEnum K (tCons ta tNil)) δ (enumD ds) := fun B0 H0 B H σ s R q =>
  ha B0 H0 B H σ s _ fun x B1 H1 t1 dx => by
    cases dx with
    | @lst p xs _ s1 da =>
      have lx := dps_len da
      refine ⟨p, xs, rfl, t1.bh.seq s1, q _ B1 H1 t1 ⟨⟨_, _, (by unfold enumD; rw [zipD_len (by rw [upTo_len]), upTo_len, ← lx]; exact walk_enum), fun H e => e.seq s1, ?_⟩⟩⟩
      rintro i v B3 H3 H4 d e1 e2 hd ⟨T, u, z, rfl, n, rfl, h1, h2⟩
      obtain ⟨a, b, ha, hb, rfl⟩ := zipD_at hd
      obtain ⟨rfl, _⟩ := upTo_at ha
      obtain ⟨b', hb', dyb⟩ := dps_at' da h2
      rw [hb] at hb'
      cases hb'
      cases h1
      exact pair_dp e2 n (.int _) (dp_same e1 dyb)
end
section
variable {P : Program} {w : World} {K : PySem.W.Frag} {mg : Str → Option Value} {base : Heap}
theorem ok_dataS {x qual : Str} {st : Stmt} {f : Addr} {fd : FuncData} {N ps : List Str} {k : Nat} {R : List Slot → PyData → Prop} (F : Fun K x qual st f fd) (Sc : FnScope N ps (defScope st)) (hlen : ∀ xs d, R xs d → xs.length = ps.length)
    (hb : ∀ (cdv : Value) (A : Around) (outer : List Env) (s : Shared) (H : Hp) (E : XK) (xs : List Slot) (d : PyData), Room k (A.deeper (PyProof.Rows.envOfC qual (defScope st) s.heap.objs.size f cdv)) → R xs d →
      ∃ t, PSs (cxOf CX0 P w K mg base N qual (defScope st) f cdv A outer s H E).nox (defBody st) t ∧ XR K t (startS N xs) d) : FnOk P w K mg base CX0 (k + 1) f fd ps (spS K R) := by
  refine F.ok Sc (fun vs H Q E h => ?_) (fun cdv A outer s H vs Q E hr h => ?_)
  · obtain ⟨B, xs, d, e, dv, r, _⟩ := h
    rw [dv.len]
    exact hlen xs d r
  · obtain ⟨B, xs, d, e, dv, r, q⟩ := h
    obtain ⟨t, h1, h2⟩ := hb cdv A outer s H E xs d hr r
    exact ⟨t, h1, h2 B H B H _ (start_SS e dv) _ q⟩
theorem ok_data {x qual : Str} {st : Stmt} {f : Addr} {fd : FuncData} {N ps : List Str} {k : Nat} {R : List PyData → PyData → Prop} (F : Fun K x qual st f fd) (Sc : FnScope N ps (defScope st)) (hlen : ∀ ds d, R ds d → ds.length = ps.length)
    (hb : ∀ (cdv : Value) (A : Around) (outer : List Env) (s : Shared) (H : Hp) (E : XK) (ds : List PyData) (d : PyData), Room k (A.deeper (PyProof.Rows.envOfC qual (defScope st) s.heap.objs.size f cdv)) → R ds d →
      ∃ t, PSs (cxOf CX0 P w K mg base N qual (defScope st) f cdv A outer s H E).nox (defBody st) t ∧ XR K t (startD N ds) d) : FnOk P w K mg base CX0 (k + 1) f fd ps (spD K R) := by
  refine F.ok Sc (fun vs H Q E h => ?_) (fun cdv A outer s H vs Q E hr h => ?_)
  · obtain ⟨B, ds, d, e, dv, r, _⟩ := h
    rw [dps_len dv]
    exact hlen ds d r
  · obtain ⟨B, ds, d, e, dv, r, q⟩ := h
    obtain ⟨t, h1, h2⟩ := hb cdv A outer s H E ds d hr r
    exact ⟨t, h1, h2 B H B H _ (start_S e dv) _ q⟩
end
end K37
/-! The plain mirror: what the defs reckon, over lists and numbers. -/
namespace K37
open PySem L2
/-! ### values of signs, reckonings, boxes -/
def W : Int := 281474976710656
def val (s : Str) (a b : Int) : Int :=
  if s = "+" then (a + b) % W else if s = "-" then (a - b) % W else if s = "*" then a * b % W else if s = "/" then (if b = 0 then 0 else a / b)
  else if s = "<" then (if decide (a < b) = true then 1 else 0) else if s = "=" then (if decide (a = b) = true then 1 else 0)
  else if s = "&" then Builtin.bitAnd a b else if s = "|" then Builtin.bitOr a b else Builtin.bitXor a b
def Rng (a : Int) : Prop := 0 ≤ a ∧ a < W
theorem bit_and {a b : Int} (ha : Rng a) (hb : Rng b) : Rng (Builtin.bitAnd a b) := by
  have h := PyProof.Rows.bitAnd_range a hb.1
  exact ⟨h.1, Int.lt_of_le_of_lt h.2 hb.2⟩
inductive Rk where
  | box (k : Int)
  | num (n : Int)
  | op (s : Str) (l r : Rk)
def rkD : Rk → PyData
  | .box k => .tuple [.str "box", .int k]
  | .num n => .tuple [.str "num", .int n]
  | .op s l r => .tuple [.str s, rkD l, rkD r]
def Rk.dep : Rk → Nat
  | .box _ => 0
  | .num _ => 0
  | .op _ l r => max l.dep r.dep + 1
def Rk.Ok : Rk → Prop
  | .box _ => True
  | .num n => Rng n
  | .op s l r => s.length = 1 ∧ l.Ok ∧ r.Ok
abbrev Bx := List (Key × V)
def gB (kvs : Bx) (k : Int) : Int := match valV kvs (.inl k) with
  | some (.int n) => n
  | _ => 0
def wr (kvs : Bx) : Rk → Int
  | .box k => gB kvs k
  | .num n => n
  | .op s l r => val s (wr kvs l) (wr kvs r)
structure BOk (n : Nat) (kvs : Bx) : Prop where
  len : kvs.length ≤ n
  all : ∀ k : Int, (valV kvs (.inl k)).getD (.int 0) = .int (gB kvs k) ∧ Rng (gB kvs k)
theorem bit_or {a b : Int} (ha : Rng a) (hb : Rng b) : Rng (Builtin.bitOr a b) := by
  rw [Bits.bitOr_pp ha.1 hb.1]
  have h1 : a.toNat < 2 ^ 48 := by have := ha.2; unfold W at this; have := ha.1; omega
  have h2 : b.toNat < 2 ^ 48 := by have := hb.2; unfold W at this; have := hb.1; omega
  have h := Nat.or_lt_two_pow h1 h2
  refine ⟨Int.natCast_nonneg _, ?_⟩
  unfold W
  omega
theorem bit_xor {a b : Int} (ha : Rng a) (hb : Rng b) : Rng (Builtin.bitXor a b) := by
  rw [Bits.bitXor_pp ha.1 hb.1]
  have h1 : a.toNat < 2 ^ 48 := by have := ha.2; unfold W at this; have := ha.1; omega
  have h2 : b.toNat < 2 ^ 48 := by have := hb.2; unfold W at this; have := hb.1; omega
  have h := Nat.xor_lt_two_pow h1 h2
  refine ⟨Int.natCast_nonneg _, ?_⟩
  unfold W
  omega
theorem rng_mod (a : Int) : Rng (a % W) := ⟨Int.emod_nonneg _ (by decide), Int.emod_lt_of_pos _ (by decide)⟩
theorem rng_ite {c : Prop} [Decidable c] : Rng (if c then 1 else 0) := by
  split <;> exact ⟨by decide, by decide⟩
theorem val_rng (s : Str) {a b : Int} (ha : Rng a) (hb : Rng b) : Rng (val s a b) := by
  unfold val
  split
  · exact rng_mod _
  split
  · exact rng_mod _
  split
  · exact rng_mod _
  split
  · split
    · exact ⟨by decide, by decide⟩
    · exact ⟨Int.ediv_nonneg ha.1 hb.1, Int.lt_of_le_of_lt (Int.ediv_le_self _ ha.1) ha.2⟩
  split
  · exact rng_ite
  split
  · exact rng_ite
  split
  · exact bit_and ha hb
  split
  · exact bit_or ha hb
  · exact bit_xor ha hb
theorem wr_rng {n : Nat} {kvs : Bx} (h : BOk n kvs) : ∀ t : Rk, t.Ok → Rng (wr kvs t)
  | .box k, _ => (h.all k).2
  | .num _, h => h
  | .op s l r, o => val_rng s (wr_rng h l o.2.1) (wr_rng h r o.2.2)
theorem putK_le (kvs : Bx) (k : Key) (v : V) : (putK kvs k v).length ≤ kvs.length + 1 := by
  unfold putK
  split
  · rw [List.length_map]
    omega
  · rw [List.length_append, List.length_singleton]
    exact Nat.le_refl _
theorem BOk.nil : BOk 0 [] := ⟨Nat.le_refl _, fun k => ⟨rfl, (by show (0 : Int) ≤ 0; decide), (by show (0 : Int) < W; decide)⟩⟩
theorem gB_put (kvs : Bx) (k j x : Int) : gB (putK kvs (.inl k) (.int x)) j = if j = k then x else gB kvs j := by
  unfold gB
  rw [valV_put]
  by_cases e : j = k
  · rw [if_pos (congrArg Sum.inl e), if_pos e]
  · rw [if_neg (fun z => e (Sum.inl.inj z)), if_neg e]
theorem BOk.put {n : Nat} {kvs : Bx} (h : BOk n kvs) (k : Int) {x : Int} (hx : Rng x) : BOk (n + 1) (putK kvs (.inl k) (.int x)) := by
  refine ⟨Nat.le_trans (putK_le _ _ _) (Nat.add_le_add_right h.len 1), fun j => ?_⟩
  rw [gB_put, valV_put]
  by_cases e : j = k
  · rw [if_pos (congrArg Sum.inl e), if_pos e]
    exact ⟨rfl, hx⟩
  · rw [if_neg (fun z => e (Sum.inl.inj z)), if_neg e]
    exact h.all j
theorem BOk.mono {n m : Nat} {kvs : Bx} (h : BOk n kvs) (hm : n ≤ m) : BOk m kvs := ⟨Nat.le_trans h.len hm, h.all⟩
/-- pairs put one behind the other -/
def putAll (kvs : Bx) (ps : List (Int × Int)) : Bx := ps.foldl (fun b p => putK b (.inl p.1) (.int p.2)) kvs
theorem putAll_snoc (kvs : Bx) (ps : List (Int × Int)) (p : Int × Int) : putAll kvs (ps ++ [p]) = putK (putAll kvs ps) (.inl p.1) (.int p.2) := by
  unfold putAll
  rw [List.foldl_append]
  rfl
theorem putAll_take (kvs : Bx) (ps : List (Int × Int)) {i : Nat} {p : Int × Int} (h : ps[i]? = some p) : putAll kvs (ps.take (i + 1)) = putK (putAll kvs (ps.take i)) (.inl p.1) (.int p.2) := by
  rw [List.take_add_one, h, Option.toList_some, putAll_snoc]
theorem putAll_ok {n : Nat} {kvs : Bx} (h : BOk n kvs) : ∀ {ps : List (Int × Int)}, (∀ p ∈ ps, Rng p.2) → BOk (n + ps.length) (putAll kvs ps)
  | [], _ => h
  | p :: r, hp => by
    have z := putAll_ok (h.put p.1 (hp p List.mem_cons_self)) (ps := r) (fun q hq => hp q (List.mem_cons_of_mem _ hq))
    rw [List.length_cons]
    exact z.mono (by omega)
/-- the sets of a spot, done at once -/
abbrev Sets := List (Int × Rk)
def news (kvs : Bx) (l : Sets) : List (Int × Int) := l.map fun p => (p.1, wr kvs p.2)
def setB (kvs : Bx) (l : Sets) : Bx := putAll kvs (news kvs l)
def Sets.Ok (l : Sets) : Prop := ∀ p ∈ l, p.2.Ok ∧ p.2.dep < 3
theorem news_rng {n : Nat} {kvs : Bx} (h : BOk n kvs) {l : Sets} (hl : l.Ok) : ∀ p ∈ news kvs l, Rng p.2 := fun p hp => by
  obtain ⟨q, hq, rfl⟩ := List.mem_map.mp hp
  exact wr_rng h q.2 (hl q hq).1
theorem setB_ok {n : Nat} {kvs : Bx} (h : BOk n kvs) {l : Sets} (hl : l.Ok) : BOk (n + l.length) (setB kvs l) := by
  have z := putAll_ok h (news_rng h hl)
  unfold news at z
  rw [List.length_map] at z
  exact z
def setD (p : Int × Rk) : PyData := .tuple [.int p.1, rkD p.2]
def setsD (l : Sets) : PyData := .list (l.map setD)
/-- the boxes at the begin -/
def numbered (l : List Int) : List (Int × Int) := l.zipIdx.map fun p => ((p.2 : Int), p.1)
def mkB (l : List Int) : Bx := putAll [] (numbered l)
theorem numbered_at {l : List Int} {i : Nat} {x : Int} (h : l[i]? = some x) : (numbered l)[i]? = some ((i : Int), x) := by
  unfold numbered
  rw [List.getElem?_map, List.getElem?_zipIdx, h]
  simp
theorem mkB_step {l : List Int} {i : Nat} {x : Int} (h : l[i]? = some x) : putAll [] ((numbered l).take (i + 1)) = putK (putAll [] ((numbered l).take i)) (.inl (i : Int)) (.int x) := putAll_take _ _ (numbered_at h)
theorem numbered_len (l : List Int) : (numbered l).length = l.length := by
  unfold numbered
  rw [List.length_map, List.length_zipIdx]
theorem mkB_ok {l : List Int} (h : ∀ x ∈ l, Rng x) : BOk l.length (mkB l) := by
  have z := putAll_ok BOk.nil (ps := numbered l) (fun p hp => by
    unfold numbered at hp
    obtain ⟨q, hq, rfl⟩ := List.mem_map.mp hp
    obtain ⟨_, _, h3⟩ := List.mem_zipIdx (x := q.1) (i := q.2) (by cases q; exact hq)
    rw [h3]
    exact h _ (List.getElem_mem _))
  rw [numbered_len, Nat.zero_add] at z
  exact z
/-! ### what the law draws -/
def cellOf (ns : List Int) (k : Nat) : Int := ns.getD k 0
def numb (c : Int) : Int := if c % 3 = 0 then c / 3 % W else if c % 3 = 1 then W - 1 - c / 3 % 4 else c / 3 % 5
theorem numb_rng (c : Int) : Rng (numb c) := by
  unfold numb
  split
  · exact rng_mod _
  split
  · have h1 : 0 ≤ c / 3 % 4 := Int.emod_nonneg _ (by decide)
    have h2 : c / 3 % 4 < 4 := Int.emod_lt_of_pos _ (by decide)
    unfold Rng W
    omega
  · have h1 : 0 ≤ c / 3 % 5 := Int.emod_nonneg _ (by decide)
    have h2 : c / 3 % 5 < 5 := Int.emod_lt_of_pos _ (by decide)
    unfold Rng W
    omega
abbrev one (c : Nat) : Str := ⟨#[c]⟩
def abc : Str := "abcdefghijklmnopqrstuvwxyz"
def letter (i : Int) : Nat := (abc.cps.toList).getD i.toNat 0
def taken : List Str := ["fn", "in", "new", "get", "put", "call", "out", "if", "while", "else", "end", "back"]
def size (c : Int) : Int := c % 8
def wordOf (c : Int) : Str := Txt.join "" ((List.range (size c).toNat).map fun (k : Nat) => one (letter (c * (48271 + 2 * (k : Int)) % 2147483647 / 9 % 26)))
def at_ (c : Int) : Int := c / 8 % (size c + 1)
def base_ (c : Int) (k : Nat) : Str := (cutS (wordOf c) none (some (at_ c)) ++ one (letter ((c / 64 + (k : Int)) % 26))) ++ cutS (wordOf c) (some (at_ c)) none
def name_ (c : Int) (k : Nat) : Str := if base_ c k ∈ taken then base_ c k ++ "x" else base_ c k
def names (c : Int) (n : Nat) : List Str := (List.range n).map (name_ c)
def signs : Str := "+-*/<=&|^"
def leafR (c : Int) (bs : List Int) : Rk := if c % 5 > 0 then .box (bs.getD (c / 5 % 8).toNat 0) else .num (c / 5 % W)
def mulK (k : Nat) : Int := ([48271, 69621] : List Int).getD k 0
def drawn (c : Int) (k : Nat) : Int := c * mulK k % 2147483647 / 3
def other (m : Int) (bs : List Int) : Rk := if m / 144 % 4 = 0 then .num (m / 576 % 9) else .box (bs.getD (m / 18 % 8).toNat 0)
def sgOf (m : Int) : Str := one (signs.cps.toList.getD (m / 2 % 9).toNat 0)
def wrap (c : Int) (bs : List Int) (k : Nat) (t : Rk) : Rk :=
  if drawn c k % 2 = 0 then .op (sgOf (drawn c k)) t (other (drawn c k) bs) else .op (sgOf (drawn c k)) (other (drawn c k) bs) t
def someN (c : Int) (bs : List Int) : Nat → Rk
  | 0 => leafR c bs
  | k + 1 => wrap c bs k (someN c bs k)
def some_ (c : Int) (bs : List Int) : Rk := someN c bs (c / 40 % 3).toNat
theorem other_dep (m : Int) (bs : List Int) : (other m bs).dep = 0 := by
  unfold other
  split <;> rfl
theorem other_ok (m : Int) (bs : List Int) : (other m bs).Ok := by
  unfold other
  split
  · have h1 : 0 ≤ m / 576 % 9 := Int.emod_nonneg _ (by decide)
    have h2 : m / 576 % 9 < 9 := Int.emod_lt_of_pos _ (by decide)
    show Rng _
    unfold Rng W
    omega
  · trivial
theorem someN_ok (c : Int) (bs : List Int) : ∀ k : Nat, (someN c bs k).Ok ∧ (someN c bs k).dep ≤ k
  | 0 => by
    show (leafR c bs).Ok ∧ (leafR c bs).dep ≤ 0
    unfold leafR
    split
    · exact ⟨trivial, Nat.le_refl _⟩
    · exact ⟨rng_mod _, Nat.le_refl _⟩
  | k + 1 => by
    have ih := someN_ok c bs k
    show (wrap c bs k (someN c bs k)).Ok ∧ (wrap c bs k (someN c bs k)).dep ≤ k + 1
    unfold wrap
    split
    · refine ⟨⟨rfl, ih.1, other_ok _ _⟩, ?_⟩
      show max (someN c bs k).dep (other _ bs).dep + 1 ≤ k + 1
      rw [other_dep]
      omega
    · refine ⟨⟨rfl, other_ok _ _, ih.1⟩, ?_⟩
      show max (other _ bs).dep (someN c bs k).dep + 1 ≤ k + 1
      rw [other_dep]
      omega
theorem some_ok (c : Int) (bs : List Int) : (some_ c bs).Ok ∧ (some_ c bs).dep < 3 := by
  have h := someN_ok c bs (c / 40 % 3).toNat
  have h2 : c / 40 % 3 < 3 := Int.emod_lt_of_pos _ (by decide)
  exact ⟨h.1, Nat.lt_of_le_of_lt h.2 (by omega)⟩
def stepOf (a : Int) : Int := ([1, 3, 5] : List Int).getD (a / 8 % 3).toNat 0
def setAt (a o : Int) (bs : List Int) (k : Nat) : Int × Rk := (bs.getD ((a + stepOf a * (k : Int)) % 8).toNat 0, some_ (o / 5 * ((k : Int) + 1) + 7 * (k : Int)) bs)
def sets_ (a o : Int) (bs : List Int) : Sets := (List.range (o % 5).toNat).map (setAt a o bs)
theorem sets_ok (a o : Int) (bs : List Int) : (sets_ a o bs).Ok := fun p hp => by
  obtain ⟨k, _, rfl⟩ := List.mem_map.mp hp
  exact some_ok _ _
theorem sets_len (a o : Int) (bs : List Int) : (sets_ a o bs).length ≤ 4 := by
  unfold sets_
  rw [List.length_map, List.length_range]
  have h2 : o % 5 < 5 := Int.emod_lt_of_pos _ (by decide)
  omega
def boxD (b : Int) : PyData := .tuple [.str "box", .int b]
def chainD (own : Str) (r : Int) : PyData := .tuple [.str own, .int r]
def markD (own : Str) (bs : List Int) (r : Int) : PyData := .tuple [.tuple [chainD own r], .list [.list (bs.map boxD)]]
def copyD (n : Str) : PyData := .tuple [.str "copy", .str n, .int 0]
def lastOf (ns : List Str) : Str := ns.getD 7 ""
def rowsD (ns : List Str) (many : Nat) : List PyData := (ns.drop many).map copyD ++ [.tuple [.str "copy", .str (lastOf ns), .int 1], .tuple [.str "back", .int 0]]
def funD (own : Str) (ns : List Str) (many : Nat) : PyData := .tuple [.str own, .bool false, .tuple ((ns.take many).map .str), .tuple (rowsD ns many)]
/-- acts -/
inductive Act where
  | go (k : Int)
  | back (t : Rk)
  | call (g : Str) (es : List Rk) (k : Int)
  | wait (b : Option Int) (k : Int)
def optD : Option Int → PyData
  | none => .none
  | some b => .int b
def actD : Act → PyData
  | .go k => .tuple [.str "go", .int k]
  | .back t => .tuple [.str "back", rkD t]
  | .call g es k => .tuple [.str "call", .str g, .tuple (es.map rkD), .int k]
  | .wait b k => .tuple [.str "wait", optD b, .int k]
def spotD (p : Sets × Act) : PyData := .tuple [setsD p.1, actD p.2]
end K37
/-! The text by places, what the walk asks of the top, two rules that the layer has not. -/
namespace K37
open PySem PySem.Spec PyProof.Rows L2
/-! ### places of the text -/
def top (i : Nat) : Stmt := PySem.Challenge.pw_stopglass_k37_calls_and_waits.main.body.getD i (.Pass ⟨0, 0, 0, 0⟩)
abbrev s_gives : Stmt := top 8
abbrev s_atoms_of : Stmt := top 9
abbrev s_reads : Stmt := top 10
abbrev s_names_of : Stmt := top 11
abbrev s_value : Stmt := top 14
abbrev s_wk_init : Stmt := inClass (top 15) 0
abbrev s_ended : Stmt := inClass (top 15) 1
abbrev s_answer : Stmt := inClass (top 15) 2
abbrev s_step : Stmt := inClass (top 15) 8
abbrev s_worth : Stmt := top 17
abbrev s_cf_init : Stmt := inClass (top 19) 0
abbrev s_keep : Stmt := inClass (top 19) 1
abbrev s_worths : Stmt := inClass (top 19) 2
abbrev s_settle : Stmt := inClass (top 19) 3
abbrev s_asked : Stmt := top 20
abbrev s_cw_init : Stmt := inClass (top 21) 0
abbrev s_advance : Stmt := inClass (top 21) 1
abbrev s_done : Stmt := inClass (top 21) 2
abbrev s_gone_back : Stmt := inClass (top 21) 3
abbrev s_mark : Stmt := inClass (top 21) 4
abbrev s_frames : Stmt := inClass (top 21) 5
abbrev s_under : Stmt := inClass (top 21) 6
abbrev s_place : Stmt := inClass (top 21) 8
abbrev s_told : Stmt := inClass (top 21) 9
abbrev s_lcell_at : Stmt := top 23
abbrev s_lwhole : Stmt := top 24
abbrev s_lvalue : Stmt := top 25
abbrev s_lnumber : Stmt := top 26
abbrev s_lnames : Stmt := top 27
abbrev s_lsome : Stmt := top 28
abbrev s_lsets : Stmt := top 29
abbrev s_lworth : Stmt := top 30
abbrev s_lframes : Stmt := top 31
abbrev s_lmarks : Stmt := top 32
abbrev s_lset : Stmt := top 33
abbrev s_lstands : Stmt := top 34
abbrev s_lfunction : Stmt := top 35
abbrev s_lwalked : Stmt := top 36
abbrev s_law : Stmt := top 37
/-! ### what is asked of the top -/
structure Txt (K : PySem.W.Frag) (mg : Str → Option Value) (aG aA : Addr) : Prop where
  len_ : mg "len" = none
  isinstance_ : mg "isinstance" = none
  int_ : mg "int" = none
  str_ : mg "str" = none
  bool_ : mg "bool" = none
  list_ : mg "list" = none
  tuple_ : mg "tuple" = none
  range_ : mg "range" = none
  enumerate_ : mg "enumerate" = none
  zip_ : mg "zip" = none
  WIDE : ∃ u, mg "WIDE" = some u ∧ RelV (.int 281474976710656) u
  GIVING : ∃ u, mg "GIVING" = some u ∧ RelV (.ref aG) u
  ASKING : ∃ u, mg "ASKING" = some u ∧ RelV (.ref aA) u
  tG : ∀ H : Hp, SqT K H aG [.str "copy", .str "op", .str "new", .str "get", .str "call"]
  tA : ∀ H : Hp, SqT K H aA [.str "if", .str "while", .str "out", .str "back"]
/-! ### xs.extend(t), t a tuple -/
theorem ext_tup (l : Addr) (items : Array Value) (n : Nat) (b : Addr) (o : Obj) (items2 : Array Value) (n2 : Nat) (hc : o.cls = .type "tuple") (hd : o.data = .seq items2 n2) (hlong : ¬ (!items.isEmpty && Builtin.List.listTooLong (items.size + items2.size)) = true) (h1 : items.size ≤ sizeLine) (h2 : items.size + items2.size ≤ sizeLine + 1) :
    Meets (Builtin.«list.extend» ⟨[.ref l, .ref b], []⟩) (fun _ R s => s.heap.get? l = some { cls := .type "list", dict := none, data := .seq items n, slots := #[] } ∧ s.heap.get? b = some o ∧ R (.ok (.ret Value.none)) { s with heap := s.heap.update l (Obj.mapSeq fun x => x ++ items2) }) :=
  .of_wp fun prog w A R s h => by
    obtain ⟨hl, hb, h⟩ := h
    show wpAny _ _ (Builtin.List.listExtendWith (.ref l) (.ref b) .none) _ _ s
    unfold Builtin.List.listExtendWith
    refine wpAny_bind (wpAny_typeOf ⟨o, hb, hc⟩ ?_)
    have z : (Builtin.List.listSameRef (.ref l) (.ref b) || Value.type "tuple" == Value.type "list" || Value.type "tuple" == Value.type "tuple") = true := by simp
    simp only [z, if_true]
    refine wpAny_bind ?_
    unfold Builtin.List.listItems
    refine wpAny_bind (wpAny_seqItems hb hd (wpAny_pure ?_))
    refine wpAny_bind ?_
    refine wpAny_bind (wpAny_seqItems hl rfl (wpAny_pure ?_))
    rw [if_neg hlong]
    show wpAny _ _ (updateSeq l (· ++ items2) >>= fun _ => ret .none) _ _ s
    refine wpAny_bind (wpAny_updateSeq hl rfl ?_ (hz := h1) (_hz' := by rw [Array.size_append]; exact h2))
    exact wpAny_pure ⟨_, rfl, h⟩
section
variable {X : Cx}
def rExtT (K : PySem.W.Frag) : V → List V → Hp → VK → Prop := fun x vs H Q => ∃ l b xs zs, x = .ref l ∧ vs = [.ref b] ∧ H l = some (.lst xs) ∧ SqT K H b zs ∧ xs.length + zs.length ≤ 1000 ∧ Q .non (upd H l (.lst (xs ++ zs)))
theorem mt_extendT : MtM X "list.extend" (rExtT X.K) := by
  intro pins s σ H x vs v us Q I rx rv h
  obtain ⟨l, b, xs, zs, rfl, rfl, hH, hB, hz, q⟩ := h
  cases rx
  obtain ⟨u, rfl, ru⟩ := rv.one
  cases ru
  obtain ⟨z, its, n, r, hl, e⟩ := I.lstM hH
  obtain ⟨its2, r2, ⟨o, e2, o2, n2, o3⟩, z2⟩ := I.tuple hB
  have hl2 := r2.length
  have hsz : its.toArray.size + its2.toArray.size ≤ sizeLine := by
    rw [List.size_toArray, List.size_toArray]
    exact Nat.le_of_lt (small1000 (by omega))
  have hlong : ¬ (!its.toArray.isEmpty && Builtin.List.listTooLong (its.toArray.size + its2.toArray.size)) = true := by
    rw [notLongL hsz, Bool.and_false]
    exact Bool.false_ne_true
  refine call_meets F.slot_list_extend ⟨_, e, rfl⟩ F.entry_list_extend (F.args_list_extend_2 _ _)
    (ext_tup l its.toArray n b o its2.toArray n2 o2 o3 hlong (by rw [List.size_toArray]; omega) (by omega)) ⟨e, e2, ?_⟩
  refine ⟨.non, _, I.lset (its' := its ++ its2) hH e (by simp) (r.append r2) ?_, rfl, q⟩
  rw [List.length_append]
  exact Nat.le_of_lt (small1000 hz)
/-! ### within a comprehension's block: the written part by its name -/
section
variable {K : PySem.W.Frag} {tg l e : Expr} {tl ta : TE} {f : Str} {pos : Pos}
theorem pi_listK (hK : X.K = K) (h : PE X l tl) : PI X tg l (iList K tl) := by
  subst hK
  exact pi_list h
theorem ix_listK (hK : X.K = K) : IxR X (rIxL K) := by
  subst hK
  exact ix_list
theorem ix_tupK (hK : X.K = K) : IxR X (rIxT K) := by
  subst hK
  exact ix_tup
theorem call_list_ofK (hK : X.K = K) : CallR X (.type "list") (fun xs H Q => ∃ p ys, xs = [.ref p] ∧ (SqL K H p ys ∨ SqT K H p ys) ∧ ∀ l, H l = none → Q (.ref l) (upd H l (.lst ys))) := by
  subst hK
  exact call_list_of
theorem call_len_seqK (hK : X.K = K) : CallR X (.builtin "len") (fun xs H Q => ∃ p ys, xs = [.ref p] ∧ (SqL K H p ys ∨ SqT K H p ys) ∧ Q (.int ys.length) H) := by
  subst hK
  exact call_len_seq
theorem pe_fldK (hK : X.K = K) (he : PE X e ta) (hb : attributeBase e f X.env (eval e X.env) = eval e X.env) : PE X (.Attribute e f pos) (tFld K ta f) := by
  subst hK
  exact pe_fld he hb
end
/-! ### C.m(e, ..): a def of a class, read off the class -/
def tCFn (C : Addr) (sp : Sp) (ta : TE) (t : TA) : TE := fun σ H Q => ta σ H fun x H1 => x = .ref C ∧ t σ H1 fun vs H2 => sp vs H2 Q E0
structure ClsFn (P : Program) (w : World) (K : PySem.W.Frag) (mg : Str → Option Value) (base : Heap) (k : Nat) (C : Addr) (m : Str) (sp : Sp) : Prop where
  ex : ∃ (mc : Value) (f : Addr) (fd : FuncData) (ps : List Str), ClX.CRead K C mc ∧ PySem.W.findCls K (.ref C) mc m = some (.val (.ref f)) ∧ FnOk P w K mg base CX0 k f fd ps sp ∧ PySem.W.keepIn K (.ref f) = true ∧ Binds K fd ps []
theorem pe_cfn {pl : Sem Bool} {k j : Nat} {C : Addr} {m : Str} {sp : Sp} {o e : Expr} {es : List Expr} {pos apos : Pos} {ta : TE} {t : TA} (c : ClsFn X.prog X.w X.K X.mg X.base k C m sp) (hr : Room j X.A) (hk : k ≤ j) (he : PE X o ta) (ha : PA X (e :: es) t)
    (hst : starEach (e :: es) X.env = (false, eval e X.env) :: starEach es X.env := by rfl) (hpl : (backTo pos (starEach es X.env)).any (·.1) = false := by rfl)
    (ht : eval (.Call (.Attribute o m apos) (e :: es) [] pos) X.env = (do
      let ov ← eval o X.env
      standAt apos.atName
      let (f, first) ← holding [ov] (getMethod ov m pl)
      callWith pos f first (backTo pos (starEach (e :: es) X.env)) (backToKw pos (keywordEach [] X.env))) := by rfl) :
    PE X (.Call (.Attribute o m apos) (e :: es) [] pos) (tCFn C sp ta t) := by
  obtain ⟨mc, f, fd, ps, r, hv, F, kp, b⟩ := c.ex
  refine ⟨fun pins s σ H Q I h => ?_⟩
  refine PySem.W.methodCall_KW (pl := pl) (thn (he.run pins s σ H _ I h) fun u s1 ⟨x, H1, I1, rx, ex, q⟩ => ?_) ht
  subst ex
  obtain rfl : u = Value.ref C := rx
  refine PySem.W.method_cls I1.kIn r.ga (ClX.getcval_ok (v := .ref f) I1 r ⟨hv, rfl⟩ fun s2 I2 => ?_)
  refine PySem.W.callWith_K (h₀ := X.base) I2.ok.mod.kin kp (thn (ha.run pos pins s2 σ H1 _ I2 q) fun us s3 ⟨vs, H2, I3, rv, q2⟩ => ⟨I3.kIn, ?_⟩) hst hpl
  exact run_fn F (hr.mono hk) b .nil pass0 I3 rv (by rw [List.append_nil]; exact q2)
end
end K37
/-! Defs that only make data, 1: the flows, the values of signs. -/
namespace K37
open PySem L2
section
variable {K : PySem.W.Frag} {mg : Str → Option Value} {aG aA : Addr}
def givD : PyData := .tuple [.str "copy", .str "op", .str "new", .str "get", .str "call"]
def askD : PyData := .tuple [.str "if", .str "while", .str "out", .str "back"]
theorem Txt.dG (T : Txt K mg aG aA) (B : Hp) : Dp K B (.ref aG) givD := .tup (T.tG B) (.cons (.str _) (.cons (.str _) (.cons (.str _) (.cons (.str _) (.cons (.str _) .nil)))))
theorem Txt.dA (T : Txt K mg aG aA) (B : Hp) : Dp K B (.ref aA) askD := .tup (T.tA B) (.cons (.str _) (.cons (.str _) (.cons (.str _) (.cons (.str _) .nil))))
end
/-- expressions whose readings are plain -/
local macro_rules | `(tactic| walk_at "ve") => `(tactic| first
  | exact ve_int | exact ve_str | exact ve_bl | exact ve_non | exact va_nil | exact vt_yes
  | exact ve_var rfl
  | (apply va_cons; (walk_at "ve"); (walk_at "ve"))
  | (apply ve_tup; (walk_at "ve"); (exact Nat.le_of_ble_eq_true rfl))
  | (apply VL.ve; apply vl_lst; (walk_at "ve"); (exact Nat.le_of_ble_eq_true rfl))
  | (apply ve_op; (walk_at "ve"); (walk_at "ve"); (walk_at "rd"))
  | (apply vt_test; (walk_at "ve"))
  | (apply vt_B; (walk_at "ve"))
  | (apply ve_notV; (walk_at "ve"))
  | (apply vt_not; (walk_at "ve"))
  | (apply vt_or; (walk_at "ve"); (intro _; (walk_at "ve")))
  | (apply vt_and; (walk_at "ve"); (intro _; (walk_at "ve")))
  | (apply ve_glob; first | exact Txt.dG (by assumption) | exact Txt.dA (by assumption)))
local macro_rules | `(tactic| walk_at "rd") => `(tactic| first
  | exact rd_int | exact rd_bool | exact rd_eqS | exact rd_eqI | exact rd_neI
  | exact rd_ixT rfl | exact rd_ixL rfl | exact rd_inT' rfl rfl | exact rd_inL' rfl rfl | exact rd_niT' rfl rfl | exact rd_niL' rfl rfl
  | (apply rd_intC; first | assumption | decide | (show (0 : Int) < _; decide) | (constructor <;> decide) | (constructor <;> first | decide | (constructor <;> decide))))
/-- an if whose test is known: no, on; yes, its return -/
local macro_rules | `(tactic| walk_at "no") => `(tactic| (apply xr_when; (walk_at "ve"); (intro h; exact absurd h (by decide +kernel)); intro _))
local macro_rules | `(tactic| walk_at "yes") => `(tactic| (apply xr_when; (walk_at "ve"); (intro _; apply xr_ret; (walk_at "ve")); (intro h; exact absurd h (by decide +kernel))))
local macro_rules | `(tactic| walk_at "ret") => `(tactic| (apply xr_ret; (walk_at "ve")))
local macro_rules | `(tactic| walk_at "set") => `(tactic| (apply xr_seq; (apply xn_set; (walk_at "ve"))))
section
variable {P : Program} {w : World} {K : PySem.W.Frag} {mg : Str → Option Value} {base : Heap} {aG aA : Addr}
/-- the rows that stand in the law's functions -/
inductive Row where
  | copy (n : Str) (z : Int)
  | back
def rowD : Row → PyData
  | .copy n z => .tuple [.str "copy", .str n, .int z]
  | .back => .tuple [.str "back", .int 0]
def Row.gives : Row → PyData
  | .copy n _ => .str n
  | .back => .none
def Row.atom : Row → Int
  | .copy _ z => z
  | .back => 0
def R_gives (ds : List PyData) (d : PyData) : Prop := ∃ r : Row, ds = [rowD r] ∧ d = r.gives
def R_atoms (ds : List PyData) (d : PyData) : Prop := ∃ r : Row, ds = [rowD r] ∧ d = .list [.int r.atom]
def R_reads (ds : List PyData) (d : PyData) : Prop := ∃ r : Row, ds = [rowD r] ∧ d = .list []
theorem sc_gives : FnScope ["row"] ["row"] (defScope s_gives) := ⟨rfl, rfl, rfl, by decide +kernel, rfl, by decide +kernel, by decide +kernel⟩
theorem ok_gives {f : Addr} {fd : FuncData} (F : Fun K "gives" "gives" s_gives f fd) (T : Txt K mg aG aA) : FnOk P w K mg base CX0 1 f fd ["row"] (spD K R_gives) := by
  have nd := sc_gives.nd
  refine ok_data F sc_gives (fun ds d ⟨r, h, _⟩ => by rw [h]; rfl) fun cdv A outer s H E ds d hr hR => ?_
  refine ⟨_, (pss_cons (ps_if (pt_cmpR op_in_seq (pe_ix ix_tup (pv 0) pe_int (fun _ _ => rfl)) (C8.pe_gc (by rfl) T.GIVING) rfl) (pss_one (ps_ret (pe_ix ix_tup (pv 0) pe_int (fun _ _ => rfl)))) pss_nil)
    (pss_one (ps_ret pe_non))), ?_⟩
  obtain ⟨r, rfl, rfl⟩ := hR
  cases r with
  | copy n z =>
    walk_at "yes"
  | back =>
    walk_at "no"
    walk_at "ret"
theorem sc_atoms : FnScope ["row", "kind"] ["row"] (defScope s_atoms_of) := ⟨rfl, rfl, rfl, by decide +kernel, rfl, by decide +kernel, by decide +kernel⟩
theorem ok_atoms {f : Addr} {fd : FuncData} (F : Fun K "atoms_of" "atoms_of" s_atoms_of f fd) (T : Txt K mg aG aA) : FnOk P w K mg base CX0 1 f fd ["row"] (spD K R_atoms) := by
  have nd := sc_atoms.nd
  refine ok_data F sc_atoms (fun ds d ⟨r, h, _⟩ => by rw [h]; rfl) fun cdv A outer s H E ds d hr hR => ?_
  refine ⟨_, (pss_cons (ps_set (i := 1) nd rfl (Or.inl rfl) (pe_ix ix_tup (pv 0) pe_int (fun _ _ => rfl)))
    (pss_cons (ps_if (PW.pt (pw_or (pt_cmpR op_eq (pv 1) pe_str (nomark _)) (pw_or1 (pt_cmpR op_eq (pv 1) pe_str (nomark _))))) (pss_one (ps_ret (pe_lst (pa_cons (pe_ix ix_tup (pv 0) pe_int (fun _ _ => rfl)) pa_nil)))) pss_nil)
    (pss_cons (ps_if (pt_cmpR op_eq (pv 1) pe_str (nomark _)) (pss_one (ps_ret (pe_lst (pa_cons (pe_ix ix_tup (pv 0) pe_int (fun _ _ => rfl)) (pa_cons (pe_ix ix_tup (pv 0) pe_int (fun _ _ => rfl)) pa_nil))))) pss_nil)
    (pss_cons (ps_if (pt_cmpR op_eq (pv 1) pe_str (nomark _)) (pss_one (ps_ret (pe_lst (pa_cons (pe_ix ix_tup (pv 0) pe_int (fun _ _ => rfl)) (pa_cons (pe_ix ix_tup (pv 0) pe_int (fun _ _ => rfl)) pa_nil))))) pss_nil)
    (pss_cons (ps_if (pt_cmpR op_eq (pv 1) pe_str (nomark _)) (pss_one (ps_ret (pe_callTy call_list_of (by rfl) T.list_ (by decide +kernel) (pa_cons (pe_ix ix_tup (pv 0) pe_int (fun _ _ => rfl)) pa_nil)))) pss_nil)
    (pss_cons (ps_if (pt_cmpR op_in_seq (pv 1) (C8.pe_gc (by rfl) T.ASKING) rfl) (pss_one (ps_ret (pe_lst (pa_cons (pe_ix ix_tup (pv 0) pe_int (fun _ _ => rfl)) pa_nil)))) pss_nil)
    (pss_one (ps_ret (pe_lst pa_nil))))))))), ?_⟩
  obtain ⟨r, rfl, rfl⟩ := hR
  cases r with
  | copy n z =>
    walk_at "set"
    walk_at "yes"
  | back =>
    walk_at "set"
    walk_at "no"
    walk_at "no"
    walk_at "no"
    walk_at "no"
    walk_at "yes"
theorem sc_reads : FnScope ["row", "found", "atom"] ["row"] (defScope s_reads) := ⟨rfl, rfl, rfl, by decide +kernel, rfl, by decide +kernel, by decide +kernel⟩
theorem ok_reads {f : Addr} {fd : FuncData} (F : Fun K "reads" "reads" s_reads f fd) (T : Txt K mg aG aA) (c_atoms_of : C8.Cal P w K mg base 1 "atoms_of" (spD K R_atoms) []) : FnOk P w K mg base CX0 2 f fd ["row"] (spD K R_reads) := by
  have nd := sc_reads.nd
  refine ok_data F sc_reads (fun ds d ⟨r, h, _⟩ => by rw [h]; rfl) fun cdv A outer s H E ds d hr hR => ?_
  refine ⟨_, (pss_cons (ps_set (i := 1) nd rfl (Or.inl rfl) (pe_lst pa_nil))
    (pss_cons (ps_for PassesOwn.never rfl (pi_list (C8.pe_c c_atoms_of hr (by omega) (by rfl) (pa_cons (pv 0) pa_nil))) (pg_name (i := 2) nd rfl (Or.inl rfl)) (pss_one (ps_if (PW.pt (pw_and (pt_val (pe_callB call_isi (by rfl) T.isinstance_ (by decide +kernel) (pa_cons (pv 2) (pa_cons (pe_bltn (v := .ty "str") (by rfl) T.str_ (by decide +kernel) rfl) pa_nil)))) (pw_and1 (pt_cmpR op_notIn_seq (pv 2) (pv 1) rfl)))) (pss_one (ps_expr (pe_bm PySem.F.plainAttrs_list PySem.F.slot_list_append PySem.F.type_list_append mt_append (pv 1) (pa_cons (pv 2) pa_nil)))) pss_nil)))
    (pss_one (ps_ret (pv 1))))), ?_⟩
  obtain ⟨r, rfl, rfl⟩ := hR
  refine xr_seq (xn_setL (vl_lst va_nil (Nat.zero_le _))) ?_
  refine xr_seq (xn_for [.int r.atom] (fun _ => [.val (rowD r), .ml [], .no]) (vi_list (ve_call (va_cons (ve_var rfl) va_nil) ⟨r, rfl, rfl⟩)) fun i d h => ?_) (xr_retM rfl)
  have e : d = .int r.atom := by
    match i, h with
    | 0, h => cases h; rfl
  subst e
  refine ⟨_, _, xg_name, (xn_if (k := false && true) (vt_and (vt_B (ve_isi (n0 := "int") (ve_var rfl) rfl (by decide +kernel))) (fun h => by cases h)) (fun h => by cases h) fun _ => xn_next).weak ⟨.inr rfl, .inr rfl, .inl rfl, trivial⟩⟩
/-! ### the names of a function -/
def R_names (ds : List PyData) (d : PyData) : Prop := ∃ (own : Str) (ns : List Str) (many : Nat), ds = [funD own ns many] ∧ ns.Nodup ∧ ns.length = 8 ∧ many ≤ 7 ∧ d = .list (ns.map .str)
theorem row_at {ns : List Str} {many i : Nat} {d : PyData} (hl : ns.length = 8) (hm : many ≤ 7) (h : (rowsD ns many)[i]? = some d) :
    (∃ n, ns[many + i]? = some n ∧ d = rowD (.copy n 0) ∧ many + i < 8) ∨ (many + i = 8 ∧ d = rowD (.copy (lastOf ns) 1)) ∨ (many + i = 9 ∧ d = rowD .back) := by
  unfold rowsD at h
  have hd : ((ns.drop many).map copyD).length = 8 - many := by rw [List.length_map, List.length_drop, hl]
  rw [List.getElem?_append, hd] at h
  by_cases q : i < 8 - many
  · rw [if_pos q, List.getElem?_map, List.getElem?_drop] at h
    cases e : ns[many + i]? with
    | none => rw [e] at h; cases h
    | some n =>
      rw [e] at h
      cases h
      exact .inl ⟨n, rfl, rfl, by omega⟩
  · rw [if_neg q] at h
    obtain ⟨k, hk⟩ : ∃ k, i - (8 - many) = k := ⟨_, rfl⟩
    rw [hk] at h
    match k, h with
    | 0, h =>
      cases h
      exact .inr (.inl ⟨by omega, rfl⟩)
    | 1, h =>
      cases h
      exact .inr (.inr ⟨by omega, rfl⟩)
theorem rows_len {ns : List Str} {many : Nat} (hl : ns.length = 8) (hm : many ≤ 7) : (rowsD ns many).length = 10 - many := by
  unfold rowsD
  rw [List.length_append, List.length_map, List.length_drop, hl]
  show 8 - many + 2 = 10 - many
  omega
theorem sc_names_of : FnScope ["function", "found", "row", "given", "name"] ["function"] (defScope s_names_of) := ⟨rfl, rfl, rfl, by decide +kernel, rfl, by decide +kernel, by decide +kernel⟩
theorem ok_names_of {f : Addr} {fd : FuncData} (F : Fun K "names_of" "names_of" s_names_of f fd) (T : Txt K mg aG aA) (c_gives : C8.Cal P w K mg base 1 "gives" (spD K R_gives) []) (c_reads : C8.Cal P w K mg base 2 "reads" (spD K R_reads) []) : FnOk P w K mg base CX0 3 f fd ["function"] (spD K R_names) := by
  have nd := sc_names_of.nd
  refine ok_data F sc_names_of (fun ds d ⟨_, _, _, h, _⟩ => by rw [h]; rfl) fun cdv A outer s H E ds d hr hR => ?_
  refine ⟨_, (pss_cons (ps_set (i := 1) nd rfl (Or.inl rfl) (pe_callTy call_list_of (by rfl) T.list_ (by decide +kernel) (pa_cons (pe_ix ix_tup (pv 0) pe_int (fun _ _ => rfl)) pa_nil)))
    (pss_cons (ps_for PassesOwn.never rfl (pi_tup (pe_ix ix_tup (pv 0) pe_int (fun _ _ => rfl))) (pg_name (i := 2) nd rfl (Or.inl rfl)) (pss_cons (ps_set (i := 3) nd rfl (Or.inl rfl) (C8.pe_c c_gives hr (by omega) (by rfl) (pa_cons (pv 2) pa_nil))) (pss_cons (ps_if (PW.pt (pw_and (pt_cmp (pc_notN (pv 3))) (pw_and1 (pt_cmpR op_notIn_seq (pv 3) (pv 1) rfl)))) (pss_one (ps_expr (pe_bm PySem.F.plainAttrs_list PySem.F.slot_list_append PySem.F.type_list_append mt_append (pv 1) (pa_cons (pv 3) pa_nil)))) pss_nil) (pss_one (ps_for PassesOwn.never rfl (pi_list (C8.pe_c c_reads hr (by omega) (by rfl) (pa_cons (pv 2) pa_nil))) (pg_name (i := 4) nd rfl (Or.inl rfl)) (pss_one (ps_if (pt_cmpR op_notIn_seq (pv 4) (pv 1) rfl) (pss_one (ps_expr (pe_bm PySem.F.plainAttrs_list PySem.F.slot_list_append PySem.F.type_list_append mt_append (pv 1) (pa_cons (pv 4) pa_nil)))) pss_nil)))))))
    (pss_one (ps_ret (pv 1))))), ?_⟩
  obtain ⟨own, ns, many, rfl, hnd, hl, hm, rfl⟩ := hR
  refine xr_seq (xn_setL (vl_cb (va_cons (by walk_at "ve") va_nil) (rcl_listT (by rw [List.length_map, List.length_take]; omega)))) ?_
  refine xr_seq (xn_forE (δ' := [.val (funD own ns many), .ml (ns.map .str), .no, .no, .no]) (rowsD ns many) (fun i => [.val (funD own ns many), .ml ((ns.take (min (many + i) 8)).map .str), .no, .no, .no]) ?_ ?_ (vi_tup (by walk_at "ve")) fun i d h => ?_) (xr_retM rfl)
  · show [Slot.val (funD own ns many), .ml ((ns.take many).map .str), .no, .no, .no] = _
    rw [show min (many + 0) 8 = many by omega]
  · rw [rows_len hl hm, show min (many + (10 - many)) 8 = 8 by omega, ← hl, List.take_length]
  refine ⟨_, _, xg_name, ?_⟩
  rcases row_at hl hm h with ⟨n, hn, rfl, hi⟩ | ⟨hi, rfl⟩ | ⟨hi, rfl⟩
  · -- a name that is new
    refine xn_seq (xn_set (ve_call (va_cons (ve_var rfl) va_nil) ⟨.copy n 0, rfl, rfl⟩)) ?_
    have e1 : min (many + i) 8 = many + i := by omega
    have e2 : min (many + (i + 1)) 8 = many + i + 1 := by omega
    have hin : n ∉ ns.take (many + i) := fun z => by
      obtain ⟨j, hj, e⟩ := List.mem_take_iff_getElem.mp z
      obtain ⟨hk, e3⟩ := List.getElem?_eq_some_iff.mp hn
      have := (List.getElem_inj hnd).mp (e.trans e3.symm)
      omega
    have hv : (!inV (V.str n) ((ns.take (min (many + i) 8)).map V.str)) = true := by
      rw [inV_strs, e1, decide_eq_false hin]
      rfl
    refine xn_seq (xn_if (k := true && true) (vt_and (vt_B (ve_notN (ve_var rfl) rfl)) (fun _ => vt_eq (vt_test (ve_niM rfl (ve_var rfl) rfl (flat_strs _))) hv)) (fun _ => xn_app rfl (ve_var rfl) rfl (by rw [List.length_map, List.length_take]; omega)) (fun h => by cases h)) ?_
    refine (xn_for0 (vi_list (ve_call (va_cons (ve_var rfl) va_nil) ⟨.copy n 0, rfl, rfl⟩))).weak ⟨.inr rfl, .inr ?_, .inl rfl, .inl rfl, .inr rfl, trivial⟩
    show Slot.ml ((ns.take (min (many + (i + 1)) 8)).map PyData.str) = Slot.ml ((ns.take (min (many + i) 8)).map PyData.str ++ [.str n])
    rw [e1, e2, List.take_add_one, hn, List.map_append]
    rfl
  · -- the last name once more
    refine xn_seq (xn_set (ve_call (va_cons (ve_var rfl) va_nil) ⟨.copy (lastOf ns) 1, rfl, rfl⟩)) ?_
    have e1 : min (many + i) 8 = 8 := by omega
    have e2 : min (many + (i + 1)) 8 = 8 := by omega
    have hin : lastOf ns ∈ ns := by
      unfold lastOf
      rw [List.getD_eq_getElem?_getD, List.getElem?_eq_getElem (show 7 < ns.length by omega)]
      exact List.getElem_mem _
    have hv : (!inV (V.str (lastOf ns)) ((ns.take (min (many + i) 8)).map V.str)) = false := by
      rw [inV_strs, e1, ← hl, List.take_length, decide_eq_true hin]
      rfl
    refine xn_seq (xn_if (k := true && false) (vt_and (vt_B (ve_notN (ve_var rfl) rfl)) (fun _ => vt_eq (vt_test (ve_niM rfl (ve_var rfl) rfl (flat_strs _))) hv)) (fun h => by cases h) (fun _ => xn_next)) ?_
    refine (xn_for0 (vi_list (ve_call (va_cons (ve_var rfl) va_nil) ⟨.copy (lastOf ns) 1, rfl, rfl⟩))).weak ⟨.inr rfl, .inr ?_, .inl rfl, .inl rfl, .inr rfl, trivial⟩
    show Slot.ml ((ns.take (min (many + (i + 1)) 8)).map PyData.str) = Slot.ml ((ns.take (min (many + i) 8)).map PyData.str)
    rw [e1, e2]
  · refine xn_seq (xn_set (ve_call (va_cons (ve_var rfl) va_nil) ⟨.back, rfl, rfl⟩)) ?_
    have e1 : min (many + i) 8 = 8 := by omega
    have e2 : min (many + (i + 1)) 8 = 8 := by omega
    refine xn_seq (xn_if (k := false && true) (vt_and (vt_B (ve_notN (ve_var rfl) rfl)) (fun h => by cases h)) (fun h => by cases h) (fun _ => xn_next)) ?_
    refine (xn_for0 (vi_list (ve_call (va_cons (ve_var rfl) va_nil) ⟨.back, rfl, rfl⟩))).weak ⟨.inr rfl, .inr ?_, .inl rfl, .inl rfl, .inr rfl, trivial⟩
    show Slot.ml ((ns.take (min (many + (i + 1)) 8)).map PyData.str) = Slot.ml ((ns.take (min (many + i) 8)).map PyData.str)
    rw [e1, e2]
end
end K37
/-! Defs that only make data, 2: values of signs, numbers, cells. -/
namespace K37
open PySem L2
/-- expressions whose readings are plain -/
local macro_rules | `(tactic| walk_at "ve") => `(tactic| first
  | exact ve_int | exact ve_str | exact ve_bl | exact ve_non | exact va_nil | exact vt_yes
  | exact ve_var rfl
  | (apply va_cons; (walk_at "ve"); (walk_at "ve"))
  | (apply ve_tup; (walk_at "ve"); (exact Nat.le_of_ble_eq_true rfl))
  | (apply VL.ve; apply vl_lst; (walk_at "ve"); (exact Nat.le_of_ble_eq_true rfl))
  | (apply ve_op; (walk_at "ve"); (walk_at "ve"); (walk_at "rd"))
  | (apply vt_test; (walk_at "ve"))
  | (apply vt_B; (walk_at "ve"))
  | (apply ve_notV; (walk_at "ve"))
  | (apply vt_not; (walk_at "ve"))
  | (apply vt_or; (walk_at "ve"); (intro _; (walk_at "ve")))
  | (apply vt_and; (walk_at "ve"); (intro _; (walk_at "ve")))
  | (apply ve_glob; first | exact Txt.dG (by assumption) | exact Txt.dA (by assumption)))
local macro_rules | `(tactic| walk_at "rd") => `(tactic| first
  | exact rd_int | exact rd_bool | exact rd_eqS | exact rd_eqI | exact rd_neI
  | exact rd_ixT rfl | exact rd_ixL rfl | exact rd_inT' rfl rfl | exact rd_inL' rfl rfl | exact rd_niT' rfl rfl | exact rd_niL' rfl rfl
  | (apply rd_intC; first | assumption | decide | (show (0 : Int) < _; decide) | (constructor <;> decide) | (constructor <;> first | decide | (constructor <;> decide))))
/-- an if whose test is known: no, on; yes, its return -/
local macro_rules | `(tactic| walk_at "no") => `(tactic| (apply xr_when; (walk_at "ve"); (intro h; exact absurd h (by decide +kernel)); intro _))
local macro_rules | `(tactic| walk_at "yes") => `(tactic| (apply xr_when; (walk_at "ve"); (intro _; apply xr_ret; (walk_at "ve")); (intro h; exact absurd h (by decide +kernel))))
local macro_rules | `(tactic| walk_at "ret") => `(tactic| (apply xr_ret; (walk_at "ve")))
local macro_rules | `(tactic| walk_at "set") => `(tactic| (apply xr_seq; (apply xn_set; (walk_at "ve"))))
section
variable {P : Program} {w : World} {K : PySem.W.Frag} {mg : Str → Option Value} {base : Heap} {aG aA : Addr}
/-! ### the value of a sign and two values -/
def R_val (ds : List PyData) (d : PyData) : Prop := ∃ (s : Str) (a b : Int), ds = [.str s, .int a, .int b] ∧ Rng a ∧ Rng b ∧ d = .int (val s a b)
theorem pw48 : (2 : Int) ^ (48 : Int).toNat = W := by decide +kernel
theorem rng_nat {a : Int} (h : Rng a) : a.natAbs < 2 ^ 48 := by
  have h1 := h.1
  have h2 := h.2
  unfold W at h2
  omega
theorem rng_mul {a b : Int} (ha : Rng a) (hb : Rng b) : CMulW a b := wide_mul (rng_nat ha) (rng_nat hb) (by decide) (by decide) (by decide)
theorem rng_div {a b : Int} (hb : Rng b) (h : ¬ b = 0) : CDivW a b := wide_div (by have := hb.1; omega) (rng_nat hb) (by decide) (by decide)
theorem sc_value : FnScope ["sign", "one", "other"] ["sign", "one", "other"] (defScope s_value) := ⟨rfl, rfl, rfl, by decide +kernel, rfl, by decide +kernel, by decide +kernel⟩
theorem ok_value {f : Addr} {fd : FuncData} (F : Fun K "value" "value" s_value f fd) (T : Txt K mg aG aA) : FnOk P w K mg base CX0 1 f fd ["sign", "one", "other"] (spD K R_val) := by
  have nd := sc_value.nd
  refine ok_data F sc_value (fun ds d ⟨_, _, _, h, _⟩ => by rw [h]; rfl) fun cdv A outer s H E ds d hr hR => ?_
  refine ⟨_, (pss_cons (ps_if (pt_cmpR op_eq (pv 0) pe_str (nomark _)) (pss_one (ps_ret (pe_op op_mod (pe_op op_add (pv 1) (pv 2)) (C8.pe_gc (by rfl) T.WIDE)))) pss_nil)
    (pss_cons (ps_if (pt_cmpR op_eq (pv 0) pe_str (nomark _)) (pss_one (ps_ret (pe_op op_mod (pe_op op_sub (pv 1) (pv 2)) (C8.pe_gc (by rfl) T.WIDE)))) pss_nil)
    (pss_cons (ps_if (pt_cmpR op_eq (pv 0) pe_str (nomark _)) (pss_one (ps_ret (pe_op op_mod (pe_op op_mulW (pv 1) (pv 2)) (C8.pe_gc (by rfl) T.WIDE)))) pss_nil)
    (pss_cons (ps_if (pt_cmpR op_eq (pv 0) pe_str (nomark _)) (pss_cons (ps_if (pt_cmpR op_eq (pv 2) pe_int (nomark _)) (pss_one (ps_ret pe_int)) pss_nil) (pss_one (ps_ret (pe_op op_fdivW (pv 1) (pv 2))))) pss_nil)
    (pss_cons (ps_if (pt_cmpR op_eq (pv 0) pe_str (nomark _)) (pss_one (ps_ret (pe_callTy call_int1 (by rfl) T.int_ (by decide +kernel) (pa_cons (pe_cmpR op_lt (pv 1) (pv 2) (nomark _)) pa_nil)))) pss_nil)
    (pss_cons (ps_if (pt_cmpR op_eq (pv 0) pe_str (nomark _)) (pss_one (ps_ret (pe_callTy call_int1 (by rfl) T.int_ (by decide +kernel) (pa_cons (pe_cmpR op_eq (pv 1) (pv 2) (nomark _)) pa_nil)))) pss_nil)
    (pss_cons (ps_if (pt_cmpR op_eq (pv 0) pe_str (nomark _)) (pss_one (ps_ret (pe_op op_and (pv 1) (pv 2)))) pss_nil)
    (pss_cons (ps_if (pt_cmpR op_eq (pv 0) pe_str (nomark _)) (pss_one (ps_ret (pe_op op_or (pv 1) (pv 2)))) pss_nil)
    (pss_one (ps_ret (pe_op op_xor (pv 1) (pv 2)))))))))))), ?_⟩
  obtain ⟨s, a, b, rfl, ha, hb, rfl⟩ := hR
  have hm : CMulW a b := rng_mul ha hb
  apply xr_when
  · walk_at "ve"
  · intro h
    have h1 := of_decide_eq_true h
    refine xr_ret (ve_eq (d := .int ((a + b) % W)) ?_ (by unfold val; rw [if_pos h1]))
    first | exact (by walk_at "ve") | (rw [← pw48]; walk_at "ve")
  intro h
  have h1 := of_decide_eq_false h
  apply xr_when
  · walk_at "ve"
  · intro h
    have h2 := of_decide_eq_true h
    refine xr_ret (ve_eq (d := .int ((a - b) % W)) ?_ (by unfold val; rw [if_neg h1, if_pos h2]))
    first | exact (by walk_at "ve") | (rw [← pw48]; walk_at "ve")
  intro h
  have h2 := of_decide_eq_false h
  apply xr_when
  · walk_at "ve"
  · intro h
    have h3 := of_decide_eq_true h
    refine xr_ret (ve_eq (d := .int (a * b % W)) ?_ (by unfold val; rw [if_neg h1, if_neg h2, if_pos h3]))
    first | exact (by walk_at "ve") | (rw [← pw48]; walk_at "ve")
  intro h
  have h3 := of_decide_eq_false h
  apply xr_when
  · walk_at "ve"
  · intro h
    have h4 := of_decide_eq_true h
    apply xr_when
    · walk_at "ve"
    · intro h
      have h5 := of_decide_eq_true h
      exact xr_ret (ve_eq ve_int (by unfold val; rw [if_neg h1, if_neg h2, if_neg h3, if_pos h4, if_pos h5]))
    · intro h
      have h5 := of_decide_eq_false h
      have hd : CDivW a b := rng_div hb h5
      refine xr_ret (ve_eq (d := .int (a / b)) (by walk_at "ve") (by unfold val; rw [if_neg h1, if_neg h2, if_neg h3, if_pos h4, if_neg h5]))
  intro h
  have h4 := of_decide_eq_false h
  apply xr_when
  · walk_at "ve"
  · intro h
    have h5 := of_decide_eq_true h
    refine xr_ret (ve_eq (ve_cb (va_cons (d := .bool (decide (a < b))) (by walk_at "ve") va_nil) rc_int1) (by unfold val; rw [if_neg h1, if_neg h2, if_neg h3, if_neg h4, if_pos h5]))
  intro h
  have h5 := of_decide_eq_false h
  apply xr_when
  · walk_at "ve"
  · intro h
    have h6 := of_decide_eq_true h
    refine xr_ret (ve_eq (ve_cb (va_cons (d := .bool (decide (a = b))) (by walk_at "ve") va_nil) rc_int1) (by unfold val; rw [if_neg h1, if_neg h2, if_neg h3, if_neg h4, if_neg h5, if_pos h6]))
  intro h
  have h6 := of_decide_eq_false h
  apply xr_when
  · walk_at "ve"
  · intro h
    have h7 := of_decide_eq_true h
    refine xr_ret (ve_eq (d := .int (Builtin.bitAnd a b)) (by walk_at "ve") (by unfold val; rw [if_neg h1, if_neg h2, if_neg h3, if_neg h4, if_neg h5, if_neg h6, if_pos h7]))
  intro h
  have h7 := of_decide_eq_false h
  apply xr_when
  · walk_at "ve"
  · intro h
    have h8 := of_decide_eq_true h
    refine xr_ret (ve_eq (d := .int (Builtin.bitOr a b)) (by walk_at "ve") (by unfold val; rw [if_neg h1, if_neg h2, if_neg h3, if_neg h4, if_neg h5, if_neg h6, if_neg h7, if_pos h8]))
  intro h
  have h8 := of_decide_eq_false h
  refine xr_ret (ve_eq (d := .int (Builtin.bitXor a b)) (by walk_at "ve") (by unfold val; rw [if_neg h1, if_neg h2, if_neg h3, if_neg h4, if_neg h5, if_neg h6, if_neg h7, if_neg h8]))
theorem sc_lvalue : FnScope ["_law_sign", "_law_one", "_law_other"] ["_law_sign", "_law_one", "_law_other"] (defScope s_lvalue) := ⟨rfl, rfl, rfl, by decide +kernel, rfl, by decide +kernel, by decide +kernel⟩
theorem ok_lvalue {f : Addr} {fd : FuncData} (F : Fun K "_law_value" "_law_value" s_lvalue f fd) (T : Txt K mg aG aA) : FnOk P w K mg base CX0 1 f fd ["_law_sign", "_law_one", "_law_other"] (spD K R_val) := by
  have nd := sc_lvalue.nd
  refine ok_data F sc_lvalue (fun ds d ⟨_, _, _, h, _⟩ => by rw [h]; rfl) fun cdv A outer s H E ds d hr hR => ?_
  refine ⟨_, (pss_cons (ps_if (pt_cmpR op_eq (pv 0) pe_str (nomark _)) (pss_one (ps_ret (pe_op op_mod (pe_op op_add (pv 1) (pv 2)) (pe_op op_pow pe_int pe_int)))) pss_nil)
    (pss_cons (ps_if (pt_cmpR op_eq (pv 0) pe_str (nomark _)) (pss_one (ps_ret (pe_op op_mod (pe_op op_sub (pv 1) (pv 2)) (pe_op op_pow pe_int pe_int)))) pss_nil)
    (pss_cons (ps_if (pt_cmpR op_eq (pv 0) pe_str (nomark _)) (pss_one (ps_ret (pe_op op_mod (pe_op op_mulW (pv 1) (pv 2)) (pe_op op_pow pe_int pe_int)))) pss_nil)
    (pss_cons (ps_if (pt_cmpR op_eq (pv 0) pe_str (nomark _)) (pss_cons (ps_if (pt_cmpR op_eq (pv 2) pe_int (nomark _)) (pss_one (ps_ret pe_int)) pss_nil) (pss_one (ps_ret (pe_op op_fdivW (pv 1) (pv 2))))) pss_nil)
    (pss_cons (ps_if (pt_cmpR op_eq (pv 0) pe_str (nomark _)) (pss_one (ps_ret (pe_callTy call_int1 (by rfl) T.int_ (by decide +kernel) (pa_cons (pe_cmpR op_lt (pv 1) (pv 2) (nomark _)) pa_nil)))) pss_nil)
    (pss_cons (ps_if (pt_cmpR op_eq (pv 0) pe_str (nomark _)) (pss_one (ps_ret (pe_callTy call_int1 (by rfl) T.int_ (by decide +kernel) (pa_cons (pe_cmpR op_eq (pv 1) (pv 2) (nomark _)) pa_nil)))) pss_nil)
    (pss_cons (ps_if (pt_cmpR op_eq (pv 0) pe_str (nomark _)) (pss_one (ps_ret (pe_op op_and (pv 1) (pv 2)))) pss_nil)
    (pss_cons (ps_if (pt_cmpR op_eq (pv 0) pe_str (nomark _)) (pss_one (ps_ret (pe_op op_or (pv 1) (pv 2)))) pss_nil)
    (pss_one (ps_ret (pe_op op_xor (pv 1) (pv 2)))))))))))), ?_⟩
  obtain ⟨s, a, b, rfl, ha, hb, rfl⟩ := hR
  have hm : CMulW a b := rng_mul ha hb
  apply xr_when
  · walk_at "ve"
  · intro h
    have h1 := of_decide_eq_true h
    refine xr_ret (ve_eq (d := .int ((a + b) % W)) ?_ (by unfold val; rw [if_pos h1]))
    first | exact (by walk_at "ve") | (rw [← pw48]; walk_at "ve")
  intro h
  have h1 := of_decide_eq_false h
  apply xr_when
  · walk_at "ve"
  · intro h
    have h2 := of_decide_eq_true h
    refine xr_ret (ve_eq (d := .int ((a - b) % W)) ?_ (by unfold val; rw [if_neg h1, if_pos h2]))
    first | exact (by walk_at "ve") | (rw [← pw48]; walk_at "ve")
  intro h
  have h2 := of_decide_eq_false h
  apply xr_when
  · walk_at "ve"
  · intro h
    have h3 := of_decide_eq_true h
    refine xr_ret (ve_eq (d := .int (a * b % W)) ?_ (by unfold val; rw [if_neg h1, if_neg h2, if_pos h3]))
    first | exact (by walk_at "ve") | (rw [← pw48]; walk_at "ve")
  intro h
  have h3 := of_decide_eq_false h
  apply xr_when
  · walk_at "ve"
  · intro h
    have h4 := of_decide_eq_true h
    apply xr_when
    · walk_at "ve"
    · intro h
      have h5 := of_decide_eq_true h
      exact xr_ret (ve_eq ve_int (by unfold val; rw [if_neg h1, if_neg h2, if_neg h3, if_pos h4, if_pos h5]))
    · intro h
      have h5 := of_decide_eq_false h
      have hd : CDivW a b := rng_div hb h5
      refine xr_ret (ve_eq (d := .int (a / b)) (by walk_at "ve") (by unfold val; rw [if_neg h1, if_neg h2, if_neg h3, if_pos h4, if_neg h5]))
  intro h
  have h4 := of_decide_eq_false h
  apply xr_when
  · walk_at "ve"
  · intro h
    have h5 := of_decide_eq_true h
    refine xr_ret (ve_eq (ve_cb (va_cons (d := .bool (decide (a < b))) (by walk_at "ve") va_nil) rc_int1) (by unfold val; rw [if_neg h1, if_neg h2, if_neg h3, if_neg h4, if_pos h5]))
  intro h
  have h5 := of_decide_eq_false h
  apply xr_when
  · walk_at "ve"
  · intro h
    have h6 := of_decide_eq_true h
    refine xr_ret (ve_eq (ve_cb (va_cons (d := .bool (decide (a = b))) (by walk_at "ve") va_nil) rc_int1) (by unfold val; rw [if_neg h1, if_neg h2, if_neg h3, if_neg h4, if_neg h5, if_pos h6]))
  intro h
  have h6 := of_decide_eq_false h
  apply xr_when
  · walk_at "ve"
  · intro h
    have h7 := of_decide_eq_true h
    refine xr_ret (ve_eq (d := .int (Builtin.bitAnd a b)) (by walk_at "ve") (by unfold val; rw [if_neg h1, if_neg h2, if_neg h3, if_neg h4, if_neg h5, if_neg h6, if_pos h7]))
  intro h
  have h7 := of_decide_eq_false h
  apply xr_when
  · walk_at "ve"
  · intro h
    have h8 := of_decide_eq_true h
    refine xr_ret (ve_eq (d := .int (Builtin.bitOr a b)) (by walk_at "ve") (by unfold val; rw [if_neg h1, if_neg h2, if_neg h3, if_neg h4, if_neg h5, if_neg h6, if_neg h7, if_pos h8]))
  intro h
  have h8 := of_decide_eq_false h
  refine xr_ret (ve_eq (d := .int (Builtin.bitXor a b)) (by walk_at "ve") (by unfold val; rw [if_neg h1, if_neg h2, if_neg h3, if_neg h4, if_neg h5, if_neg h6, if_neg h7, if_neg h8]))
/-! ### is it a whole number -/
def R_whole (ds : List PyData) (d : PyData) : Prop := ∃ i : Int, ds = [.int i] ∧ d = .bool true
theorem sc_lwhole : FnScope ["_law_found"] ["_law_found"] (defScope s_lwhole) := ⟨rfl, rfl, rfl, by decide +kernel, rfl, by decide +kernel, by decide +kernel⟩
theorem ok_lwhole {f : Addr} {fd : FuncData} (F : Fun K "_law_whole" "_law_whole" s_lwhole f fd) (T : Txt K mg aG aA) : FnOk P w K mg base CX0 1 f fd ["_law_found"] (spD K R_whole) := by
  have nd := sc_lwhole.nd
  refine ok_data F sc_lwhole (fun ds d ⟨_, h, _⟩ => by rw [h]; rfl) fun cdv A outer s H E ds d hr hR => ?_
  refine ⟨_, (pss_one (ps_ret (pe_and (pe_callB call_isi (by rfl) T.isinstance_ (by decide +kernel) (pa_cons (pv 0) (pa_cons (pe_bltn (v := .ty "int") (by rfl) T.int_ (by decide +kernel) rfl) pa_nil))) (pe_one (pe_not (pe_callB call_isi (by rfl) T.isinstance_ (by decide +kernel) (pa_cons (pv 0) (pa_cons (pe_bltn (v := .ty "bool") (by rfl) T.bool_ (by decide +kernel) rfl) pa_nil)))))))), ?_⟩
  obtain ⟨i, rfl, rfl⟩ := hR
  exact xr_ret (ve_andV (k := true) (l := true) (ve_isi (n0 := "int") (ve_var rfl) rfl (by decide +kernel)) (fun _ => ve_notV (k := false) (ve_isi (n0 := "int") (ve_var rfl) rfl (by decide +kernel))))
/-! ### a cell's number -/
def R_numb (ds : List PyData) (d : PyData) : Prop := ∃ c : Int, ds = [.int c] ∧ d = .int (numb c)
theorem sc_lnumber : FnScope ["_law_cell"] ["_law_cell"] (defScope s_lnumber) := ⟨rfl, rfl, rfl, by decide +kernel, rfl, by decide +kernel, by decide +kernel⟩
theorem ok_lnumber {f : Addr} {fd : FuncData} (F : Fun K "_law_number" "_law_number" s_lnumber f fd) (T : Txt K mg aG aA) : FnOk P w K mg base CX0 1 f fd ["_law_cell"] (spD K R_numb) := by
  have nd := sc_lnumber.nd
  refine ok_data F sc_lnumber (fun ds d ⟨_, h, _⟩ => by rw [h]; rfl) fun cdv A outer s H E ds d hr hR => ?_
  refine ⟨_, (pss_cons (ps_if (pt_cmpR op_eq (pe_op op_mod (pv 0) pe_int) pe_int (nomark _)) (pss_one (ps_ret (pe_op op_mod (pe_op op_fdiv (pv 0) pe_int) (pe_op op_pow pe_int pe_int)))) pss_nil)
    (pss_cons (ps_if (pt_cmpR op_eq (pe_op op_mod (pv 0) pe_int) pe_int (nomark _)) (pss_one (ps_ret (pe_op op_sub (pe_op op_sub (pe_op op_pow pe_int pe_int) pe_int) (pe_op op_mod (pe_op op_fdiv (pv 0) pe_int) pe_int)))) pss_nil)
    (pss_one (ps_ret (pe_op op_mod (pe_op op_fdiv (pv 0) pe_int) pe_int))))), ?_⟩
  obtain ⟨c, rfl, rfl⟩ := hR
  apply xr_when
  · walk_at "ve"
  · intro h
    have h := of_decide_eq_true h
    apply xr_ret
    apply ve_eq
    · walk_at "ve"
    · unfold numb
      rw [if_pos h, ← pw48]
  · intro h
    have h := of_decide_eq_false h
    apply xr_when
    · walk_at "ve"
    · intro h2
      have h2 := of_decide_eq_true h2
      apply xr_ret
      apply ve_eq
      · walk_at "ve"
      · unfold numb
        rw [if_neg h, if_pos h2, ← pw48]
    · intro h2
      have h2 := of_decide_eq_false h2
      apply xr_ret
      apply ve_eq
      · walk_at "ve"
      · unfold numb
        rw [if_neg h, if_neg h2]
/-! ### a cell of the script -/
def R_cell (ds : List PyData) (d : PyData) : Prop := ∃ (ns : List Int) (k : Nat), ds = [.list (ns.map .int), .int (k : Int)] ∧ d = .int (cellOf ns k)
theorem sc_lcell_at : FnScope ["_law_script", "_law_k"] ["_law_script", "_law_k"] (defScope s_lcell_at) := ⟨rfl, rfl, rfl, by decide +kernel, rfl, by decide +kernel, by decide +kernel⟩
theorem ok_lcell_at {f : Addr} {fd : FuncData} (F : Fun K "_law_cell_at" "_law_cell_at" s_lcell_at f fd) (T : Txt K mg aG aA) : FnOk P w K mg base CX0 1 f fd ["_law_script", "_law_k"] (spD K R_cell) := by
  have nd := sc_lcell_at.nd
  refine ok_data F sc_lcell_at (fun ds d ⟨_, _, h, _⟩ => by rw [h]; rfl) fun cdv A outer s H E ds d hr hR => ?_
  refine ⟨_, (pss_cons (ps_if (pt_cmpR op_lt (pv 1) (pe_callB call_len_seq (by rfl) T.len_ (by decide +kernel) (pa_cons (pv 0) pa_nil)) (nomark _)) (pss_one (ps_ret (pe_ix ix_list (pv 0) (pv 1) (fun _ _ => rfl)))) pss_nil)
    (pss_one (ps_ret pe_int))), ?_⟩
  obtain ⟨ns, k, rfl, rfl⟩ := hR
  apply xr_when
  · apply vt_test
    apply ve_op
    · walk_at "ve"
    · exact ve_cb (va_cons (by walk_at "ve") va_nil) rc_len
    · walk_at "rd"
  · intro h
    have h := of_decide_eq_true h
    rw [List.length_map] at h
    have hk : k < ns.length := by omega
    refine xr_ret (ve_op (ve_var rfl) (ve_var rfl) (rd_ixL (atI_nat ?_)))
    unfold cellOf
    rw [List.getElem?_map, List.getD_eq_getElem?_getD, List.getElem?_eq_getElem hk]
    rfl
  · intro h
    have h := of_decide_eq_false h
    rw [List.length_map] at h
    refine xr_ret (ve_eq ve_int ?_)
    unfold cellOf
    rw [List.getD_eq_getElem?_getD, List.getElem?_eq_none (by omega)]
    rfl
end
end K37
/-! Defs that only make data, 3: reckonings, sets, marks, functions, acts. -/
namespace K37
open PySem L2
/-- expressions whose readings are plain -/
local macro_rules | `(tactic| walk_at "ve") => `(tactic| first
  | exact ve_int | exact ve_str | exact ve_bl | exact ve_non | exact va_nil | exact vt_yes
  | exact ve_var rfl
  | (apply va_cons; (walk_at "ve"); (walk_at "ve"))
  | (apply ve_tup; (walk_at "ve"); (exact Nat.le_of_ble_eq_true rfl))
  | (apply VL.ve; apply vl_lst; (walk_at "ve"); (exact Nat.le_of_ble_eq_true rfl))
  | (apply ve_op; (walk_at "ve"); (walk_at "ve"); (walk_at "rd"))
  | (apply vt_test; (walk_at "ve"))
  | (apply vt_B; (walk_at "ve"))
  | (apply ve_notV; (walk_at "ve"))
  | (apply vt_not; (walk_at "ve"))
  | (apply vt_or; (walk_at "ve"); (intro _; (walk_at "ve")))
  | (apply vt_and; (walk_at "ve"); (intro _; (walk_at "ve")))
  | (apply ve_glob; first | exact Txt.dG (by assumption) | exact Txt.dA (by assumption)))
local macro_rules | `(tactic| walk_at "rd") => `(tactic| first
  | exact rd_int | exact rd_bool | exact rd_eqS | exact rd_eqI | exact rd_neI
  | exact rd_ixT rfl | exact rd_ixL rfl | exact rd_inT' rfl rfl | exact rd_inL' rfl rfl | exact rd_niT' rfl rfl | exact rd_niL' rfl rfl
  | (apply rd_intC; first | assumption | decide | (show (0 : Int) < _; decide) | (constructor <;> decide) | (constructor <;> first | decide | (constructor <;> decide))))
/-- an if whose test is known: no, on; yes, its return -/
local macro_rules | `(tactic| walk_at "no") => `(tactic| (apply xr_when; (walk_at "ve"); (intro h; exact absurd h (by decide +kernel)); intro _))
local macro_rules | `(tactic| walk_at "yes") => `(tactic| (apply xr_when; (walk_at "ve"); (intro _; apply xr_ret; (walk_at "ve")); (intro h; exact absurd h (by decide +kernel))))
local macro_rules | `(tactic| walk_at "ret") => `(tactic| (apply xr_ret; (walk_at "ve")))
local macro_rules | `(tactic| walk_at "set") => `(tactic| (apply xr_seq; (apply xn_set; (walk_at "ve"))))
section
variable {P : Program} {w : World} {K : PySem.W.Frag} {mg : Str → Option Value} {base : Heap} {aG aA : Addr} {δ : List Slot} {ta tb te : TE}
theorem bx_at {bs : List Int} {i : Int} (hl : bs.length = 8) (h0 : 0 ≤ i) (h8 : i < 8) : atI (bs.map PyData.int) i = some (.int (bs.getD i.toNat 0)) := by
  have e : i = ((i.toNat : Nat) : Int) := by omega
  have h : (bs.map PyData.int)[i.toNat]? = some (.int (bs.getD i.toNat 0)) := by
    rw [List.getElem?_map, List.getD_eq_getElem?_getD, List.getElem?_eq_getElem (show i.toNat < bs.length by omega)]
    rfl
  have z := atI_nat h
  rw [← e] at z
  exact z
theorem txt_at {l : List Nat} {n : Nat} {i : Int} (hl : l.length = n) (h0 : 0 ≤ i) (h8 : i < (n : Int)) : atI l i = some (l.getD i.toNat 0) := by
  have e : i = ((i.toNat : Nat) : Int) := by omega
  have h : l[i.toNat]? = some (l.getD i.toNat 0) := by
    rw [List.getD_eq_getElem?_getD, List.getElem?_eq_getElem (show i.toNat < l.length by omega)]
    rfl
  have z := atI_nat h
  rw [← e] at z
  exact z
theorem mod_lt {a b : Int} (h : 0 < b) : 0 ≤ a % b ∧ a % b < b := ⟨Int.emod_nonneg _ (by omega), Int.emod_lt_of_pos _ h⟩
theorem cmul_r {i j : Int} (h : 0 ≤ j) (h2 : j ≤ 1000000) : CMul i j := .inr ⟨by omega, by omega⟩
theorem cmul_l {i j : Int} (h : 0 ≤ i) (h2 : i ≤ 1000000) : CMul i j := .inl ⟨by omega, by omega⟩
theorem ve_len8 {bs : List Int} {i : Nat} (hl : bs.length = 8) (h : δ[i]? = some (.val (.list (bs.map .int)))) : VE K (tCB (fun xs H Q => ∃ p ys, xs = [.ref p] ∧ (SqL K H p ys ∨ SqT K H p ys) ∧ Q (.int ys.length) H) (tCons (tVar i) tNil)) δ (.int 8) :=
  ve_eq (ve_cb (va_cons (ve_var h) va_nil) rc_len) (by rw [List.length_map, hl]; rfl)
/-! ### a drawn reckoning -/
def R_some (ds : List PyData) (d : PyData) : Prop := ∃ (c : Int) (bs : List Int), ds = [.int c, .list (bs.map .int)] ∧ bs.length = 8 ∧ d = rkD (some_ c bs)
theorem sc_lsome : FnScope ["_law_cell", "_law_boxes", "_law_one", "_law_k", "_law_number_here", "_law_sign", "_law_other"] ["_law_cell", "_law_boxes"] (defScope s_lsome) := ⟨rfl, rfl, rfl, by decide +kernel, rfl, by decide +kernel, by decide +kernel⟩
theorem mulK_at {k : Nat} (h : k < 2) : atI [PyData.int 48271, PyData.int 69621] (k : Int) = some (.int (mulK k)) ∧ 0 ≤ mulK k ∧ mulK k ≤ 1000000 := by
  match k, h with
  | 0, _ => exact ⟨rfl, by decide, by decide⟩
  | 1, _ => exact ⟨rfl, by decide, by decide⟩
theorem ok_lsome {f : Addr} {fd : FuncData} (F : Fun K "_law_some" "_law_some" s_lsome f fd) (T : Txt K mg aG aA) : FnOk P w K mg base CX0 1 f fd ["_law_cell", "_law_boxes"] (spD K R_some) := by
  have nd := sc_lsome.nd
  refine ok_data F sc_lsome (fun ds d ⟨_, _, h, _⟩ => by rw [h]; rfl) fun cdv A outer s H E ds d hr hR => ?_
  refine ⟨_, (pss_cons (ps_set (i := 2) nd rfl (Or.inl rfl) (pe_tup (pa_cons pe_str (pa_cons (pe_op op_mod (pe_op op_fdiv (pv 0) pe_int) (pe_op op_pow pe_int pe_int)) pa_nil))))
    (pss_cons (ps_if (pt_cmpR op_gt (pe_op op_mod (pv 0) pe_int) pe_int (nomark _)) (pss_one (ps_set (i := 2) nd rfl (Or.inl rfl) (pe_tup (pa_cons pe_str (pa_cons (pe_ix ix_list (pv 1) (pe_op op_mod (pe_op op_fdiv (pv 0) pe_int) (pe_callB call_len_seq (by rfl) T.len_ (by decide +kernel) (pa_cons (pv 1) pa_nil))) (fun _ _ => rfl)) pa_nil))))) pss_nil)
    (pss_cons (ps_for PassesOwn.never rfl (pi_range1 (by rfl) T.range_ (pa_cons (pe_op op_mod (pe_op op_fdiv (pv 0) pe_int) pe_int) pa_nil)) (pg_name (i := 3) nd rfl (Or.inl rfl)) (pss_cons (ps_set (i := 4) nd rfl (Or.inl rfl) (pe_op op_fdiv (pe_op op_mod (pe_op op_mul (pv 0) (pe_ix ix_list (pe_lst (pa_cons pe_int (pa_cons pe_int pa_nil))) (pv 3) (fun _ _ => rfl))) pe_int) pe_int)) (pss_cons (ps_set (i := 5) nd rfl (Or.inl rfl) (pe_ix ix_str pe_str (pe_op op_mod (pe_op op_fdiv (pv 4) pe_int) pe_int) (fun _ _ => rfl))) (pss_cons (ps_set (i := 6) nd rfl (Or.inl rfl) (pe_tup (pa_cons pe_str (pa_cons (pe_ix ix_list (pv 1) (pe_op op_mod (pe_op op_fdiv (pv 4) pe_int) (pe_callB call_len_seq (by rfl) T.len_ (by decide +kernel) (pa_cons (pv 1) pa_nil))) (fun _ _ => rfl)) pa_nil)))) (pss_cons (ps_if (pt_cmpR op_eq (pe_op op_mod (pe_op op_fdiv (pv 4) pe_int) pe_int) pe_int (nomark _)) (pss_one (ps_set (i := 6) nd rfl (Or.inl rfl) (pe_tup (pa_cons pe_str (pa_cons (pe_op op_mod (pe_op op_fdiv (pv 4) pe_int) pe_int) pa_nil))))) pss_nil) (pss_one (ps_if (pt_cmpR op_eq (pe_op op_mod (pv 4) pe_int) pe_int (nomark _)) (pss_one (ps_set (i := 2) nd rfl (Or.inl rfl) (pe_tup (pa_cons (pv 5) (pa_cons (pv 2) (pa_cons (pv 6) pa_nil)))))) (pss_one (ps_set (i := 2) nd rfl (Or.inl rfl) (pe_tup (pa_cons (pv 5) (pa_cons (pv 6) (pa_cons (pv 2) pa_nil)))))))))))))
    (pss_one (ps_ret (pv 2)))))), ?_⟩
  obtain ⟨c, bs, rfl, hl, rfl⟩ := hR
  walk_at "set"
  refine xr_seq (xn_if (δ' := [.val (.int c), .val (.list (bs.map .int)), .val (rkD (leafR c bs)), .no, .no, .no, .no]) (by walk_at "ve") (fun h => ?_) (fun h => ?_)) ?_
  · have h := of_decide_eq_true h
    have z := mod_lt (a := c / 5) (b := 8) (by decide)
    have e : rkD (leafR c bs) = .tuple [.str "box", .int (bs.getD (c / 5 % 8).toNat 0)] := by
      unfold leafR
      rw [if_pos h]
      rfl
    rw [e]
    refine xn_set (ve_tup (va_cons ve_str (va_cons (ve_op (ve_var rfl) (ve_op (by walk_at "ve") (ve_len8 hl rfl) (rd_intC (by decide))) (rd_ixL (bx_at hl z.1 z.2))) va_nil)) (Nat.le_of_ble_eq_true rfl))
  · have h := of_decide_eq_false h
    have e : rkD (leafR c bs) = .tuple [.str "num", .int (c / 5 % (2 : Int) ^ (48 : Int).toNat)] := by
      unfold leafR
      rw [if_neg h, pw48]
      rfl
    rw [e]
    exact xn_next
  obtain ⟨n, hn⟩ : ∃ n : Nat, n = (c / 40 % 3).toNat := ⟨_, rfl⟩
  have z3 := mod_lt (a := c / 40) (b := 3) (by decide)
  refine xr_seq (xn_forE (δ' := [.val (.int c), .val (.list (bs.map .int)), .val (rkD (someN c bs n)), .no, .no, .no, .no]) (upTo n) (fun k => [.val (.int c), .val (.list (bs.map .int)), .val (rkD (someN c bs k)), .no, .no, .no, .no]) rfl (by rw [upTo_len])
    (vi_range (va_cons (ve_eq (d := .int (c / 40 % 3)) (by walk_at "ve") (by rw [hn]; exact congrArg PyData.int (by omega))) va_nil) (by omega)) fun k d h => ?_) (xr_ret (ve_eq (ve_var rfl) (by rw [hn]; rfl)))
  obtain ⟨rfl, hk⟩ := upTo_at h
  obtain ⟨m1, m2, m3⟩ := mulK_at (show k < 2 by omega)
  refine ⟨_, _, xg_name, ?_⟩
  refine xn_seq (xn_set (d := .int (drawn c k)) (ve_op (ve_op (ve_op (ve_var rfl) (ve_op (by walk_at "ve") (ve_var rfl) (rd_ixL m1)) (rd_intC (cmul_r m2 m3))) ve_int (rd_intC (by show (0 : Int) < 2147483647; decide))) ve_int (rd_intC ⟨by decide, by decide⟩))) ?_
  have ew : someN c bs (k + 1) = if drawn c k % 2 = 0 then .op (sgOf (drawn c k)) (someN c bs k) (other (drawn c k) bs) else .op (sgOf (drawn c k)) (other (drawn c k) bs) (someN c bs k) := rfl
  rw [ew]
  generalize drawn c k = m
  generalize someN c bs k = t0
  have z9 := mod_lt (a := m / 2) (b := 9) (by decide)
  have z8 := mod_lt (a := m / 18) (b := 8) (by decide)
  refine xn_seq (xn_set (d := .str (sgOf m)) (ve_op ve_str (by walk_at "ve") (rd_ixS (z := signs) (by decide +kernel) (txt_at (n := 9) (by decide +kernel) z9.1 z9.2)))) ?_
  refine xn_seq (xn_set (d := .tuple [.str "box", .int (bs.getD (m / 18 % 8).toNat 0)]) (ve_tup (va_cons ve_str (va_cons (ve_op (ve_var rfl) (ve_op (by walk_at "ve") (ve_len8 hl rfl) (rd_intC (by show (0 : Int) < 8; decide))) (rd_ixL (bx_at hl z8.1 z8.2))) va_nil)) (Nat.le_of_ble_eq_true rfl))) ?_
  refine xn_seq (xn_if (δ' := [.val (.int c), .val (.list (bs.map .int)), .val (rkD t0), .val (.int (k : Int)), .val (.int m), .val (.str (sgOf m)), .val (rkD (other m bs))]) (by walk_at "ve") (fun h => ?_) (fun h => ?_)) ?_
  · have h := of_decide_eq_true h
    have e : rkD (other m bs) = .tuple [.str "num", .int (m / 576 % 9)] := by
      unfold other
      rw [if_pos h]
      rfl
    rw [e]
    exact xn_set (by walk_at "ve")
  · have h := of_decide_eq_false h
    have e : rkD (other m bs) = .tuple [.str "box", .int (bs.getD (m / 18 % 8).toNat 0)] := by
      unfold other
      rw [if_neg h]
      rfl
    rw [e]
    exact xn_next
  refine xn_if (by walk_at "ve") (fun h => ?_) (fun h => ?_)
  · have h := of_decide_eq_true h
    rw [if_pos h]
    exact (xn_set (by walk_at "ve")).weak ⟨.inr rfl, .inr rfl, .inr rfl, .inl rfl, .inl rfl, .inl rfl, .inl rfl, trivial⟩
  · have h := of_decide_eq_false h
    rw [if_neg h]
    exact (xn_set (by walk_at "ve")).weak ⟨.inr rfl, .inr rfl, .inr rfl, .inl rfl, .inl rfl, .inl rfl, .inl rfl, trivial⟩
/-! ### sets -/
def R_sets (ds : List PyData) (d : PyData) : Prop := ∃ (a o : Int) (bs : List Int), ds = [.int a, .int o, .list (bs.map .int)] ∧ bs.length = 8 ∧ d = setsD (sets_ a o bs)
theorem sc_lsets : FnScope ["_law_one", "_law_other", "_law_boxes", "_law_step", "_law_sets_here", "_law_k"] ["_law_one", "_law_other", "_law_boxes"] (defScope s_lsets) := ⟨rfl, rfl, rfl, by decide +kernel, rfl, by decide +kernel, by decide +kernel⟩
theorem step_at {i : Int} (h0 : 0 ≤ i) (h3 : i < 3) : atI [PyData.int 1, PyData.int 3, PyData.int 5] i = some (.int (([1, 3, 5] : List Int).getD i.toNat 0)) := by
  have e : i = 0 ∨ i = 1 ∨ i = 2 := by omega
  rcases e with rfl | rfl | rfl <;> rfl
theorem ok_lsets {f : Addr} {fd : FuncData} (F : Fun K "_law_sets" "_law_sets" s_lsets f fd) (T : Txt K mg aG aA) (c_lsome : C8.Cal P w K mg base 1 "_law_some" (spD K R_some) []) : FnOk P w K mg base CX0 2 f fd ["_law_one", "_law_other", "_law_boxes"] (spD K R_sets) := by
  have nd := sc_lsets.nd
  refine ok_data F sc_lsets (fun ds d ⟨_, _, _, h, _⟩ => by rw [h]; rfl) fun cdv A outer s H E ds d hr hR => ?_
  refine ⟨_, (pss_cons (ps_set (i := 3) nd rfl (Or.inl rfl) (pe_ix ix_list (pe_lst (pa_cons pe_int (pa_cons pe_int (pa_cons pe_int pa_nil)))) (pe_op op_mod (pe_op op_fdiv (pv 0) pe_int) pe_int) (fun _ _ => rfl)))
    (pss_cons (ps_set (i := 4) nd rfl (Or.inl rfl) (pe_lst pa_nil))
    (pss_cons (ps_for PassesOwn.never rfl (pi_range1 (by rfl) T.range_ (pa_cons (pe_op op_mod (pv 1) pe_int) pa_nil)) (pg_name (i := 5) nd rfl (Or.inl rfl)) (pss_one (ps_expr (pe_bm PySem.F.plainAttrs_list PySem.F.slot_list_append PySem.F.type_list_append mt_append (pv 4) (pa_cons (pe_tup (pa_cons (pe_ix ix_list (pv 2) (pe_op op_mod (pe_op op_add (pv 0) (pe_op op_mul (pv 3) (pv 5))) pe_int) (fun _ _ => rfl)) (pa_cons (C8.pe_c c_lsome hr (by omega) (by rfl) (pa_cons (pe_op op_add (pe_op op_mul (pe_op op_fdiv (pv 1) pe_int) (pe_op op_add (pv 5) pe_int)) (pe_op op_mul pe_int (pv 5))) (pa_cons (pv 2) pa_nil))) pa_nil))) pa_nil)))))
    (pss_one (ps_ret (pv 4)))))), ?_⟩
  obtain ⟨a, o, bs, rfl, hl, rfl⟩ := hR
  have z3 := mod_lt (a := a / 8) (b := 3) (by decide)
  have z5 := mod_lt (a := o) (b := 5) (by decide)
  refine xr_seq (xn_set (d := .int (stepOf a)) (ve_op (by walk_at "ve") (by walk_at "ve") (rd_ixL (step_at z3.1 z3.2)))) ?_
  refine xr_seq (xn_setL (vl_lst va_nil (Nat.zero_le _))) ?_
  obtain ⟨n, hn⟩ : ∃ n : Nat, n = (o % 5).toNat := ⟨_, rfl⟩
  have es : setsD (sets_ a o bs) = .list (((List.range n).map (setAt a o bs)).map setD) := by rw [hn]; rfl
  rw [es]
  refine xr_seq (xn_forE (δ' := [.val (.int a), .val (.int o), .val (.list (bs.map .int)), .val (.int (stepOf a)), .ml (((List.range n).map (setAt a o bs)).map setD), .no]) (upTo n)
    (fun k => [.val (.int a), .val (.int o), .val (.list (bs.map .int)), .val (.int (stepOf a)), .ml (((List.range k).map (setAt a o bs)).map setD), .no]) rfl (by rw [upTo_len])
    (vi_range (va_cons (ve_eq (d := .int (o % 5)) (by walk_at "ve") (by rw [hn]; exact congrArg PyData.int (by omega))) va_nil) (by omega)) fun k d h => ?_) (xr_retM rfl)
  obtain ⟨rfl, hk⟩ := upTo_at h
  refine ⟨_, _, xg_name, ?_⟩
  have z8 := mod_lt (a := a + stepOf a * (k : Int)) (b := 8) (by decide)
  refine (xn_app (d := setD (setAt a o bs k)) rfl (ve_tup (va_cons (ve_op (ve_var rfl) (ve_op (ve_op (ve_var rfl) (ve_op (ve_var rfl) (ve_var rfl) (rd_intC (cmul_r (by omega) (by omega)))) rd_int) ve_int (rd_intC (by show (0 : Int) < 8; decide))) (rd_ixL (bx_at hl z8.1 z8.2)))
    (va_cons (ve_call (va_cons (ve_op (ve_op (by walk_at "ve") (by walk_at "ve") (rd_intC (cmul_r (by omega) (by omega)))) (ve_op ve_int (ve_var rfl) (rd_intC (cmul_l (by decide) (by decide)))) rd_int) (va_cons (ve_var rfl) va_nil)) ⟨_, bs, rfl, hl, rfl⟩) va_nil)) (Nat.le_of_ble_eq_true rfl)) rfl (by rw [List.length_map, List.length_map, List.length_range]; omega)).weak ⟨.inr rfl, .inr rfl, .inr rfl, .inr rfl, .inr ?_, .inl rfl, trivial⟩
  rw [List.range_succ, List.map_append, List.map_append]
  rfl
/-! ### marks -/
def R_marks (ds : List PyData) (d : PyData) : Prop := ∃ (rows : List Int) (own : Str) (bs : List Int), ds = [.list (rows.map .int), .str own, .list (bs.map .int)] ∧ bs.length = 8 ∧ rows.length ≤ 10 ∧ d = .list (rows.map (markD own bs))
theorem sc_lmarks : FnScope ["_law_rows", "_law_own", "_law_boxes", "_law_row", "_law_box"] ["_law_rows", "_law_own", "_law_boxes"] (defScope s_lmarks) := ⟨rfl, rfl, rfl, by decide +kernel, rfl, by decide +kernel, by decide +kernel⟩
theorem ok_lmarks {f : Addr} {fd : FuncData} (F : Fun K "_law_marks" "_law_marks" s_lmarks f fd) (T : Txt K mg aG aA) : FnOk P w K mg base CX0 1 f fd ["_law_rows", "_law_own", "_law_boxes"] (spD K R_marks) := by
  have nd := sc_lmarks.nd
  refine ok_data F sc_lmarks (fun ds d ⟨_, _, _, h, _⟩ => by rw [h]; rfl) fun cdv A outer s H E ds d hr hR => ?_
  refine ⟨_, (pss_one (ps_ret (pe_lc (own := [("_law_row", 3)]) (g := (gName 3)) (tt := tYes) rfl nd (pi_list (pv 0)) (blkOk_by (own := [("_law_row", 3)]) (N := ["_law_rows", "_law_own", "_law_boxes", "_law_row", "_law_box"]) (by kernel_rfl)) (fun _ _ _ _ _ => (pg_name (i := 3) nd rfl (Or.inl rfl))) (fun _ _ _ _ _ => pts_nil) (fun _ _ _ _ _ => (pe_tup (pa_cons (pe_tup (pa_cons (pe_tup (pa_cons (pv 1) (pa_cons (pv 3) pa_nil))) pa_nil)) (pa_cons (pe_lst (pa_cons (pe_lc (own := [("_law_box", 4)]) (g := (gName 4)) (tt := tYes) rfl nd (pi_listK (K := K) rfl (pv 2)) (blkOk_by (own := [("_law_box", 4)]) (N := ["_law_rows", "_law_own", "_law_boxes", "_law_row", "_law_box"]) (by kernel_rfl)) (fun _ _ _ _ _ => (pg_name (i := 4) nd rfl (Or.inl rfl))) (fun _ _ _ _ _ => pts_nil) (fun _ _ _ _ _ => (pe_tup (pa_cons pe_str (pa_cons (pv 4) pa_nil))))) pa_nil)) pa_nil))))))), ?_⟩
  obtain ⟨rows, own, bs, rfl, hl, hl2, rfl⟩ := hR
  refine xr_ret (vl_lc rows PyData.int (markD own bs) (vi_list (ve_var rfl)) (by omega) fun r _ => ⟨_, _, ?_, xg_name, vt_yes, ?_⟩).ve
  · intro i hi
    exact hi
  · refine ve_tup (va_cons (ve_tup (va_cons (ve_tup (va_cons (ve_var rfl) (va_cons (ve_var rfl) va_nil)) (Nat.le_of_ble_eq_true rfl)) va_nil) (Nat.le_of_ble_eq_true rfl)) (va_cons (vl_lst (va_cons (vl_lc bs PyData.int boxD (vi_list (ve_var rfl)) (by omega) fun b _ => ⟨_, _, ?_, xg_name, vt_yes, ?_⟩).ve va_nil) (Nat.le_of_ble_eq_true rfl)).ve va_nil)) (Nat.le_of_ble_eq_true rfl)
    · intro i hi
      exact hi
    · exact ve_tup (va_cons ve_str (va_cons (ve_var rfl) va_nil)) (Nat.le_of_ble_eq_true rfl)
end
end K37
/-! Defs that only make data, 4: functions, acts, names, frames. -/
namespace K37
open PySem L2
/-- expressions whose readings are plain -/
local macro_rules | `(tactic| walk_at "ve") => `(tactic| first
  | exact ve_int | exact ve_str | exact ve_bl | exact ve_non | exact va_nil | exact vt_yes
  | exact ve_var rfl
  | (apply va_cons; (walk_at "ve"); (walk_at "ve"))
  | (apply ve_tup; (walk_at "ve"); (exact Nat.le_of_ble_eq_true rfl))
  | (apply VL.ve; apply vl_lst; (walk_at "ve"); (exact Nat.le_of_ble_eq_true rfl))
  | (apply ve_op; (walk_at "ve"); (walk_at "ve"); (walk_at "rd"))
  | (apply vt_test; (walk_at "ve"))
  | (apply vt_B; (walk_at "ve"))
  | (apply ve_notV; (walk_at "ve"))
  | (apply vt_not; (walk_at "ve"))
  | (apply vt_or; (walk_at "ve"); (intro _; (walk_at "ve")))
  | (apply vt_and; (walk_at "ve"); (intro _; (walk_at "ve")))
  | (apply ve_glob; first | exact Txt.dG (by assumption) | exact Txt.dA (by assumption)))
local macro_rules | `(tactic| walk_at "rd") => `(tactic| first
  | exact rd_int | exact rd_bool | exact rd_eqS | exact rd_eqI | exact rd_neI
  | exact rd_ixT rfl | exact rd_ixL rfl | exact rd_inT' rfl rfl | exact rd_inL' rfl rfl | exact rd_niT' rfl rfl | exact rd_niL' rfl rfl
  | (apply rd_intC; first | assumption | decide | (show (0 : Int) < _; decide) | (constructor <;> decide) | (constructor <;> first | decide | (constructor <;> decide))))
/-- an if whose test is known: no, on; yes, its return -/
local macro_rules | `(tactic| walk_at "no") => `(tactic| (apply xr_when; (walk_at "ve"); (intro h; exact absurd h (by decide +kernel)); intro _))
local macro_rules | `(tactic| walk_at "yes") => `(tactic| (apply xr_when; (walk_at "ve"); (intro _; apply xr_ret; (walk_at "ve")); (intro h; exact absurd h (by decide +kernel))))
local macro_rules | `(tactic| walk_at "ret") => `(tactic| (apply xr_ret; (walk_at "ve")))
local macro_rules | `(tactic| walk_at "set") => `(tactic| (apply xr_seq; (apply xn_set; (walk_at "ve"))))
section
variable {P : Program} {w : World} {K : PySem.W.Frag} {mg : Str → Option Value} {base : Heap} {aG aA : Addr} {δ : List Slot} {ta tb te : TE}
theorem rd_eqD {a b : PyData} (ha : SeqAt.shaped a = true) (hb : SeqAt.shaped b = true) : RD K (rEqD K) a b (.bool (PyData.eqv a b)) := fun B H x y e dx dy Q q => ⟨a, b, dp_same e dx, dp_same e dy, ha, hb, q _ B H (.refl e) (.bl _)⟩
theorem rd_neD {a b : PyData} (ha : SeqAt.shaped a = true) (hb : SeqAt.shaped b = true) : RD K (rNeD K) a b (.bool (!PyData.eqv a b)) := fun B H x y e dx dy Q q => ⟨a, b, dp_same e dx, dp_same e dy, ha, hb, q _ B H (.refl e) (.bl _)⟩
/-! ### a function of the law's program -/
def R_fun (ds : List PyData) (d : PyData) : Prop := ∃ (own : Str) (ns : List Str) (many : Nat), ds = [.str own, .list (ns.map .str), .int (many : Int), .bool false] ∧ ns.length = 8 ∧ many ≤ 7 ∧ d = funD own ns many
theorem sc_lfunction : FnScope ["_law_own", "_law_names_here", "_law_many", "_law_folded", "_law_rows", "_law_name"] ["_law_own", "_law_names_here", "_law_many", "_law_folded"] (defScope s_lfunction) := ⟨rfl, rfl, rfl, by decide +kernel, rfl, by decide +kernel, by decide +kernel⟩
theorem ok_lfunction {f : Addr} {fd : FuncData} (F : Fun K "_law_function" "_law_function" s_lfunction f fd) (T : Txt K mg aG aA) : FnOk P w K mg base CX0 1 f fd ["_law_own", "_law_names_here", "_law_many", "_law_folded"] (spD K R_fun) := by
  have nd := sc_lfunction.nd
  refine ok_data F sc_lfunction (fun ds d ⟨_, _, _, h, _⟩ => by rw [h]; rfl) fun cdv A outer s H E ds d hr hR => ?_
  refine ⟨_, (pss_cons (ps_set (i := 4) nd rfl (Or.inl rfl) (pe_op op_cat (pe_lc (own := [("_law_name", 5)]) (g := (gName 5)) (tt := tYes) rfl nd (pi_list (pe_slice sl_list (pv 1) (po_some (pv 2)) po_none)) (blkOk_by (own := [("_law_name", 5)]) (N := ["_law_own", "_law_names_here", "_law_many", "_law_folded", "_law_rows", "_law_name"]) (by kernel_rfl)) (fun _ _ _ _ _ => (pg_name (i := 5) nd rfl (Or.inl rfl))) (fun _ _ _ _ _ => pts_nil) (fun _ _ _ _ _ => (pe_tup (pa_cons pe_str (pa_cons (pv 5) (pa_cons pe_int pa_nil)))))) (pe_lst (pa_cons (pe_tup (pa_cons pe_str (pa_cons (pe_ix ix_list (pv 1) (pe_un un_neg pe_int) (fun _ _ => rfl)) (pa_cons pe_int pa_nil)))) (pa_cons (pe_tup (pa_cons pe_str (pa_cons pe_int pa_nil))) pa_nil)))))
    (pss_one (ps_ret (pe_tup (pa_cons (pv 0) (pa_cons (pv 3) (pa_cons (pe_callTy call_tuple_of (by rfl) T.tuple_ (by decide +kernel) (pa_cons (pe_slice sl_list (pv 1) po_none (po_some (pv 2))) pa_nil)) (pa_cons (pe_callTy call_tuple_of (by rfl) T.tuple_ (by decide +kernel) (pa_cons (pv 4) pa_nil)) pa_nil)))))))), ?_⟩
  obtain ⟨own, ns, many, rfl, hl, hm, rfl⟩ := hR
  have hl' : (ns.map PyData.str).length = 8 := by rw [List.length_map, hl]
  have e1 : ((ns.map PyData.str).drop (HT.sIx (ns.map PyData.str).length 0 (some (many : Int)))).take (HT.sIx (ns.map PyData.str).length (ns.map PyData.str).length none - HT.sIx (ns.map PyData.str).length 0 (some (many : Int))) = (ns.drop many).map PyData.str := by
    rw [HT.sIx_nat, HT.sIx_none, hl', show min many 8 = many by omega, ← List.map_drop, List.take_of_length_le (by rw [List.length_map, List.length_drop]; omega)]
  have e2 : ((ns.map PyData.str).drop (HT.sIx (ns.map PyData.str).length 0 none)).take (HT.sIx (ns.map PyData.str).length (ns.map PyData.str).length (some (many : Int)) - HT.sIx (ns.map PyData.str).length 0 none) = (ns.take many).map PyData.str := by
    rw [HT.sIx_nat, HT.sIx_none, hl', show min many 8 = many by omega, List.drop_zero, Nat.sub_zero, List.map_take]
  have hlast : atI (ns.map PyData.str) (-1) = some (.str (lastOf ns)) := by
    unfold atI ixN
    rw [hl', if_neg (by decide), if_pos (by decide)]
    show (ns.map PyData.str)[7]? = _
    unfold lastOf
    rw [List.getElem?_map, List.getD_eq_getElem?_getD, List.getElem?_eq_getElem (show 7 < ns.length by omega)]
    rfl
  have hs1 : VE K _ [.val (.str own), .val (.list (ns.map .str)), .val (.int (many : Int)), .val (.bool false), .no, .no] (.list ((ns.drop many).map .str)) := ve_eq (vl_slice (ve_var (i := 1) rfl) (vo_some (ve_var (i := 2) rfl)) vo_none).ve (by rw [e1])
  refine xr_seq (xn_set (d := .list (rowsD ns many)) (vl_cat (vl_lc (ns.drop many) PyData.str copyD (vi_list hs1) (by rw [List.length_drop]; omega) fun n _ => ⟨_, _, ?_, xg_name, vt_yes, ?_⟩)
    (vl_lst (va_cons (ve_tup (va_cons ve_str (va_cons (ve_op (ve_var rfl) (ve_neg ve_int) (rd_ixL hlast)) (va_cons ve_int va_nil))) (Nat.le_of_ble_eq_true rfl)) (va_cons (by walk_at "ve") va_nil)) (Nat.le_of_ble_eq_true rfl)) ?_).ve) ?_
  · intro i hi
    exact hi
  · exact ve_tup (va_cons ve_str (va_cons (ve_var rfl) (va_cons ve_int va_nil))) (Nat.le_of_ble_eq_true rfl)
  · rw [List.length_map, List.length_drop, hl]
    show 8 - many + 2 ≤ 1000
    omega
  · refine xr_ret (ve_tup (va_cons (ve_var rfl) (va_cons (ve_var rfl) (va_cons (ve_cb (va_cons (ve_eq (vl_slice (ve_var (i := 1) rfl) vo_none (vo_some (ve_var (i := 2) rfl))).ve (by rw [e2])) va_nil) rc_tuple) (va_cons (ve_cb (va_cons (ve_var rfl) va_nil) rc_tuple) va_nil)))) (Nat.le_of_ble_eq_true rfl))
/-! ### the reckonings of an act -/
def Act.asks : Act → List Rk
  | .go _ => []
  | .back t => [t]
  | .call _ es _ => es
  | .wait _ _ => []
def R_asked (ds : List PyData) (d : PyData) : Prop := ∃ a : Act, ds = [actD a] ∧ a.asks.length ≤ 100 ∧ d = .list (a.asks.map rkD)
theorem sc_asked : FnScope ["act"] ["act"] (defScope s_asked) := ⟨rfl, rfl, rfl, by decide +kernel, rfl, by decide +kernel, by decide +kernel⟩
theorem ok_asked {f : Addr} {fd : FuncData} (F : Fun K "asked" "asked" s_asked f fd) (T : Txt K mg aG aA) : FnOk P w K mg base CX0 1 f fd ["act"] (spD K R_asked) := by
  have nd := sc_asked.nd
  refine ok_data F sc_asked (fun ds d ⟨_, h, _⟩ => by rw [h]; rfl) fun cdv A outer s H E ds d hr hR => ?_
  refine ⟨_, (pss_cons (ps_if (pt_cmpR op_eq (pe_ix ix_tup (pv 0) pe_int (fun _ _ => rfl)) pe_str (nomark _)) (pss_one (ps_ret (pe_callTy call_list_of (by rfl) T.list_ (by decide +kernel) (pa_cons (pe_ix ix_tup (pv 0) pe_int (fun _ _ => rfl)) pa_nil)))) pss_nil)
    (pss_cons (ps_if (pt_cmpR op_eq (pe_ix ix_tup (pv 0) pe_int (fun _ _ => rfl)) pe_str (nomark _)) (pss_one (ps_ret (pe_lst (pa_cons (pe_ix ix_tup (pv 0) pe_int (fun _ _ => rfl)) (pa_cons (pe_ix ix_tup (pv 0) pe_int (fun _ _ => rfl)) pa_nil))))) pss_nil)
    (pss_cons (ps_if (pt_cmpR op_in_seq (pe_ix ix_tup (pv 0) pe_int (fun _ _ => rfl)) (pe_tup (pa_cons pe_str (pa_cons pe_str (pa_cons pe_str (pa_cons pe_str pa_nil))))) rfl) (pss_one (ps_ret (pe_lst (pa_cons (pe_ix ix_tup (pv 0) pe_int (fun _ _ => rfl)) pa_nil)))) pss_nil)
    (pss_one (ps_ret (pe_lst pa_nil)))))), ?_⟩
  obtain ⟨a, rfl, hl, rfl⟩ := hR
  cases a with
  | go k =>
    walk_at "no"
    walk_at "no"
    walk_at "no"
    walk_at "ret"
  | back t =>
    walk_at "no"
    walk_at "no"
    walk_at "yes"
  | call g es k =>
    apply xr_when
    · walk_at "ve"
    · intro _
      exact xr_ret (vl_cb (va_cons (ve_op (ve_var rfl) ve_int (rd_ixT (ds := [.str "call", .str g, .tuple (es.map rkD), .int k]) rfl)) va_nil) (rcl_listT (ds := es.map rkD) (by rw [List.length_map]; exact Nat.le_trans hl (by decide)))).ve
    · intro h
      exact absurd h (by decide +kernel)
  | wait b k =>
    walk_at "no"
    walk_at "no"
    walk_at "no"
    walk_at "ret"
/-! ### frames told -/
def frD (p : Str × Int) : PyData := .tuple [.str p.1, .int p.2]
def StrOk (x : Str) : Prop := ∀ c ∈ x.cps.toList, c < 1114112
theorem strOk_of {x : Str} (h : StrOk x) : PyData.strOk x = true := by
  unfold PyData.strOk
  rw [← Array.all_toList, List.all_eq_true]
  intro c hc
  exact decide_eq_true (h c hc)
theorem fr_shaped : ∀ l : List (Str × Int), (∀ p ∈ l, StrOk p.1) → PyData.canLayAll0 (l.map frD) = true
  | [], _ => rfl
  | p :: r, h => by
    have h1 := strOk_of (h p List.mem_cons_self)
    have h2 := fr_shaped r fun q hq => h q (List.mem_cons_of_mem _ hq)
    show ((PyData.strOk p.1 && (true && true)) && PyData.canLayAll0 (r.map frD)) = true
    rw [h1, h2]
    rfl
theorem fr_depth : ∀ l : List (Str × Int), PyData.depthAll (l.map frD) ≤ 1
  | [] => Nat.zero_le _
  | p :: r => by
    have h2 := fr_depth r
    show max 1 (PyData.depthAll (r.map frD)) ≤ 1
    omega
theorem frs_shaped {l : List (Str × Int)} (h : ∀ p ∈ l, StrOk p.1) : SeqAt.shaped (.list (l.map frD)) = true := by
  unfold SeqAt.shaped
  have h1 : PyData.canLay0 (.list (l.map frD)) = true := fr_shaped l h
  have h2 : PyData.depth (.list (l.map frD)) ≤ 64 := by
    show PyData.depthAll (l.map frD) + 1 ≤ 64
    have := fr_depth l
    omega
  rw [h1, decide_eq_true h2]
  rfl
theorem fr_plain : ∀ l : List (Str × Int), PyData.plainAll (l.map frD) = true
  | [] => rfl
  | p :: r => by
    have h2 := fr_plain r
    show ((true && (true && true)) && PyData.plainAll (r.map frD)) = true
    rw [h2]
    rfl
def R_frames (ds : List PyData) (d : PyData) : Prop := ∃ l : List (Str × Int), ds = [.list (l.map frD), .list (l.map frD)] ∧ (∀ p ∈ l, StrOk p.1) ∧ d = .bool true
theorem sc_lframes : FnScope ["_law_found", "_law_due", "_law_frame"] ["_law_found", "_law_due"] (defScope s_lframes) := ⟨rfl, rfl, rfl, by decide +kernel, rfl, by decide +kernel, by decide +kernel⟩
theorem ok_lframes {f : Addr} {fd : FuncData} (F : Fun K "_law_frames" "_law_frames" s_lframes f fd) (T : Txt K mg aG aA) (c_lwhole : C8.Cal P w K mg base 1 "_law_whole" (spD K R_whole) []) : FnOk P w K mg base CX0 2 f fd ["_law_found", "_law_due"] (spD K R_frames) := by
  have nd := sc_lframes.nd
  refine ok_data F sc_lframes (fun ds d ⟨_, h, _⟩ => by rw [h]; rfl) fun cdv A outer s H E ds d hr hR => ?_
  refine ⟨_, (pss_cons (ps_if (PW.pt (pw_or (pt_not (pt_val (pe_callB call_isi (by rfl) T.isinstance_ (by decide +kernel) (pa_cons (pv 0) (pa_cons (pe_bltn (v := .ty "list") (by rfl) T.list_ (by decide +kernel) rfl) pa_nil))))) (pw_or1 (pt_cmpR op_ne (pe_callB call_len_seq (by rfl) T.len_ (by decide +kernel) (pa_cons (pv 0) pa_nil)) (pe_callB call_len_seq (by rfl) T.len_ (by decide +kernel) (pa_cons (pv 1) pa_nil)) (nomark _))))) (pss_one (ps_ret pe_bl)) pss_nil)
    (pss_cons (ps_for PassesOwn.never rfl (pi_list (pv 0)) (pg_name (i := 2) nd rfl (Or.inl rfl)) (pss_one (ps_if (PW.pt (pw_or (pt_not (pt_val (pe_callB call_isi (by rfl) T.isinstance_ (by decide +kernel) (pa_cons (pv 2) (pa_cons (pe_bltn (v := .ty "tuple") (by rfl) T.tuple_ (by decide +kernel) rfl) pa_nil))))) (pw_or (pt_cmpR op_ne (pe_callB call_len_seq (by rfl) T.len_ (by decide +kernel) (pa_cons (pv 2) pa_nil)) pe_int (nomark _)) (pw_or1 (pt_not (pt_val (C8.pe_c c_lwhole hr (by omega) (by rfl) (pa_cons (pe_ix ix_tup (pv 2) pe_int (fun _ _ => rfl)) pa_nil)))))))) (pss_one (ps_ret pe_bl)) pss_nil)))
    (pss_one (ps_ret (pe_cmpR (op_eqD hr.units) (pv 0) (pv 1) (nomark _)))))), ?_⟩
  obtain ⟨l, rfl, ho, rfl⟩ := hR
  refine xr_when (k := false || false) (vt_or (vt_not (k := true) (vt_B (ve_isi (n0 := "list") (ve_var rfl) rfl (by decide +kernel)))) (fun _ => vt_eq (vt_test (ve_op (ve_cb (va_cons (ve_var rfl) va_nil) rc_len) (ve_cb (va_cons (ve_var rfl) va_nil) rc_len) rd_neI)) (by rw [decide_eq_true rfl]; rfl))) (fun h => by cases h) (fun _ => ?_)
  refine xr_seq (xn_for (l.map frD) (fun _ => [.val (.list (l.map frD)), .val (.list (l.map frD)), .no]) (vi_list (ve_var rfl)) fun i d h => ?_) ?_
  · rw [List.getElem?_map] at h
    cases e : l[i]? with
    | none => rw [e] at h; cases h
    | some p =>
      rw [e] at h
      cases h
      refine ⟨_, _, xg_name, (xn_if (k := false || (false || false)) (vt_or (vt_not (k := true) (vt_B (ve_isi (n0 := "tuple") (ve_var rfl) rfl (by decide +kernel)))) (fun _ => vt_or (vt_eq (vt_test (ve_op (ve_cb (va_cons (ve_var (d := .tuple [.str p.1, .int p.2]) rfl) va_nil) rc_lenT) ve_int rd_neI)) (by rfl))
        (fun _ => vt_not (k := true) (vt_B (ve_call (va_cons (ve_op (ve_var rfl) ve_int (rd_ixT (ds := [.str p.1, .int p.2]) rfl)) va_nil) ⟨_, rfl, rfl⟩))))) (fun h => by cases h) (fun _ => xn_next)).weak ⟨.inr rfl, .inr rfl, .inl rfl, trivial⟩⟩
  · refine xr_ret (ve_eq (ve_op (ve_var rfl) (ve_var rfl) (rd_eqD (frs_shaped ho) (frs_shaped ho))) ?_)
    exact congrArg PyData.bool (SeqAt.eqv_refl_plain (.list (l.map frD)) (fr_plain l))
/-! ### names -/
theorem tl_cutL (z : Str) (k : Nat) : TL.tl (cutS z none (some (k : Int))) = (TL.tl z).take k := by
  unfold cutS
  show ((TL.tl z).drop (HT.sIx z.length 0 none)).take _ = _
  rw [HT.sIx_nat, HT.sIx_none, List.drop_zero, Nat.sub_zero]
  have e : z.length = (TL.tl z).length := by simp [Str.length]
  rw [e, ← List.take_eq_take_min]
theorem tl_cutR (z : Str) (k : Nat) : TL.tl (cutS z (some (k : Int)) none) = (TL.tl z).drop k := by
  unfold cutS
  show ((TL.tl z).drop (HT.sIx z.length 0 (some (k : Int)))).take _ = _
  have e : z.length = (TL.tl z).length := by simp [Str.length]
  rw [HT.sIx_nat, HT.sIx_none, e, List.take_of_length_le (by rw [List.length_drop]; omega)]
  by_cases h : k ≤ (TL.tl z).length
  · rw [Nat.min_eq_left h]
  · rw [Nat.min_eq_right (by omega), List.drop_eq_nil_of_le (Nat.le_refl _), List.drop_eq_nil_of_le (by omega)]
def wordL (c : Int) : List Nat := (List.range (size c).toNat).map fun (k : Nat) => letter (c * (48271 + 2 * (k : Int)) % 2147483647 / 9 % 26)
theorem joinL_ones : ∀ l : List Nat, TL.joinL [] (l.map fun c => [c]) = l
  | [] => rfl
  | [_] => rfl
  | a :: b :: r => by
    have ih := joinL_ones (b :: r)
    show [a] ++ ([] ++ TL.joinL [] ((b :: r).map fun c => [c])) = _
    rw [ih]
    rfl
theorem tl_word (c : Int) : TL.tl (wordOf c) = wordL c := by
  unfold wordOf wordL
  rw [TL.join_eq, TL.tl_join, List.map_map]
  have e : TL.tl ("" : Str) = [] := by decide +kernel
  rw [e]
  have z := joinL_ones ((List.range (size c).toNat).map fun (k : Nat) => letter (c * (48271 + 2 * (k : Int)) % 2147483647 / 9 % 26))
  rw [List.map_map] at z
  exact z
theorem word_len (c : Int) : (wordL c).length = (size c).toNat := by
  unfold wordL
  rw [List.length_map, List.length_range]
theorem tl_base (c : Int) (k : Nat) : TL.tl (base_ c k) = ((wordL c).take (at_ c).toNat ++ [letter ((c / 64 + (k : Int)) % 26)]) ++ (wordL c).drop (at_ c).toNat := by
  have z := mod_lt (a := c) (b := 8) (by decide)
  have hz : 0 ≤ at_ c := by
    unfold at_ size
    exact Int.emod_nonneg _ (by omega)
  have e : at_ c = (((at_ c).toNat : Nat) : Int) := by omega
  unfold base_
  rw [TL.tl_append, TL.tl_append]
  rw [e, tl_cutL, tl_cutR, tl_word, Int.toNat_natCast]
theorem base_len (c : Int) (k : Nat) : (TL.tl (base_ c k)).length = (size c).toNat + 1 := by
  rw [tl_base, List.length_append, List.length_append, List.length_take, List.length_drop, word_len]
  show min (at_ c).toNat (size c).toNat + 1 + _ = _
  omega
theorem letters_are : ∀ n : Nat, n < 26 → abc.cps.toList.getD n 0 = 97 + n := by decide +kernel
theorem letter_is {i : Int} (h0 : 0 ≤ i) (h : i < 26) : letter i = 97 + i.toNat := letters_are i.toNat (by omega)
theorem base_inj {c : Int} {i j : Nat} (hi : i < 26) (hj : j < 26) (h : TL.tl (base_ c i) = TL.tl (base_ c j)) : i = j := by
  rw [tl_base, tl_base] at h
  have h1 := List.append_inj_left h (by rw [List.length_append, List.length_append]; rfl)
  have h2 := List.append_inj_right h1 rfl
  have h3 : letter ((c / 64 + (i : Int)) % 26) = letter ((c / 64 + (j : Int)) % 26) := by
    injection h2
  have z1 := mod_lt (a := c / 64 + (i : Int)) (b := 26) (by decide)
  have z2 := mod_lt (a := c / 64 + (j : Int)) (b := 26) (by decide)
  rw [letter_is z1.1 z1.2, letter_is z2.1 z2.2] at h3
  omega
theorem tl_x : TL.tl ("x" : Str) = [120] := by decide +kernel
theorem name_inj {c : Int} {i j : Nat} (hi : i < 26) (hj : j < 26) (h : name_ c i = name_ c j) : i = j := by
  have li := base_len c i
  have lj := base_len c j
  have h2 := congrArg TL.tl h
  unfold name_ at h2
  split at h2 <;> split at h2
  · rw [TL.tl_append, TL.tl_append, tl_x] at h2
    exact base_inj hi hj (List.append_inj_left h2 (by rw [li, lj]))
  · rw [TL.tl_append, tl_x] at h2
    have := congrArg List.length h2
    rw [List.length_append, li, lj] at this
    simp at this
  · rw [TL.tl_append, tl_x] at h2
    have := congrArg List.length h2
    rw [List.length_append, li, lj] at this
    simp at this
  · exact base_inj hi hj h2
theorem names_nodup (c : Int) {n : Nat} (h : n ≤ 26) : (names c n).Nodup := by
  unfold names
  refine List.pairwise_map.mpr (List.Pairwise.imp_of_mem (fun ha hb hlt he => ?_) List.pairwise_lt_range)
  rw [List.mem_range] at ha hb
  have := name_inj (by omega) (by omega) he
  omega
theorem names_len (c : Int) (n : Nat) : (names c n).length = n := by
  unfold names
  rw [List.length_map, List.length_range]
theorem letter_small {i : Int} : letter i < 1114112 := by
  unfold letter
  by_cases h : i.toNat < 26
  · rw [letters_are _ h]
    omega
  · rw [List.getD_eq_getElem?_getD, List.getElem?_eq_none (by
      have : abc.cps.toList.length = 26 := by decide +kernel
      omega)]
    decide
theorem name_ok (c : Int) (k : Nat) : StrOk (name_ c k) := by
  have hb : ∀ x ∈ TL.tl (base_ c k), x < 1114112 := by
    rw [tl_base]
    intro x hx
    have hw : ∀ x ∈ wordL c, x < 1114112 := by
      unfold wordL
      intro x hx
      obtain ⟨j, _, rfl⟩ := List.mem_map.mp hx
      exact letter_small
    rcases List.mem_append.mp hx with hx | hx
    · rcases List.mem_append.mp hx with hx | hx
      · exact hw x (List.mem_of_mem_take hx)
      · rw [List.mem_singleton.mp hx]
        exact letter_small
    · exact hw x (List.mem_of_mem_drop hx)
  unfold name_
  split
  · intro x hx
    have hx2 : x ∈ TL.tl (base_ c k ++ "x") := hx
    rw [TL.tl_append, tl_x] at hx2
    rcases List.mem_append.mp hx2 with h | h
    · exact hb x h
    · rw [List.mem_singleton.mp h]
      decide
  · exact hb
/-! ### the law's names -/
def R_lnames (ds : List PyData) (d : PyData) : Prop := ∃ (c : Int) (n : Nat), ds = [.int c, .int (n : Int)] ∧ n ≤ 26 ∧ d = .list ((names c n).map .str)
theorem sc_lnames : FnScope ["_law_cell", "_law_many", "_law_letters", "_law_size", "_law_word", "_law_k", "_law_at", "_law_found", "_law_name"] ["_law_cell", "_law_many"] (defScope s_lnames) := ⟨rfl, rfl, rfl, by decide +kernel, rfl, by decide +kernel, by decide +kernel⟩
theorem abc_len : abc.cps.toList.length = 26 := by decide +kernel
theorem abc_at {i : Int} (h0 : 0 ≤ i) (h : i < 26) : atI abc.cps.toList i = some (letter i) := txt_at abc_len h0 h
theorem ve_join {a : Str} {ys : List Str} (ho : VE K ta δ (.str a)) (he : VL K te δ (ys.map .str)) (hz : (ys.map (·.length)).sum + ys.length * a.length ≤ 16777216) :
    VE K (tM1 (fun x xs H Q => ∃ a p, ∃ ys : List Str, x = .str a ∧ xs = [.ref p] ∧ (SqL K H p (ys.map V.str) ∨ SqT K H p (ys.map V.str)) ∧ (ys.map (·.length)).sum + ys.length * a.length ≤ 16777216 ∧ Q (.str (Txt.join a ys)) H) ta te) δ (.str (Txt.join a ys)) := fun B0 H0 B H σ s Q q =>
  ho B0 H0 B H σ s _ fun v B1 H1 t1 dv => by
    cases dv
    refine ⟨⟨a, rfl⟩, he B0 H0 B1 H1 σ (s.step t1) _ fun p xs B2 H2 t2 n m e dx => ?_⟩
    obtain ⟨rfl, _⟩ := flat_dps (flat_strs ys) dx
    exact ⟨a, p, ys, rfl, rfl, .inl (SqL.of e), hz, q _ B2 H2 (t1.trans t2) (.str _)⟩
theorem ve_cut {z : Str} {tl th : TO} {lo hi : Option Int} (h : VE K te δ (.str z)) (hl : VO K tl δ lo) (hh : VO K th δ hi) (hz : z.length ≤ 1000) : VE K (tSl rSlS te tl th) δ (.str (cutS z lo hi)) :=
  ve_slice h hl hh fun B H x e dx Q q => by
    cases dx
    exact ⟨z, rfl, Nat.le_of_lt (small1000 hz), q _ B H (.refl e) (.str _)⟩
theorem tl_len (z : Str) : z.length = (TL.tl z).length := by simp [Str.length]
theorem size_rng (c : Int) : 0 ≤ size c ∧ size c < 8 := mod_lt (by decide)
theorem ones_sum : ∀ l : List Nat, ((l.map one).map (·.length)).sum = l.length
  | [] => rfl
  | _ :: r => by
    have ih := ones_sum r
    rw [List.map_cons, List.map_cons, List.sum_cons, ih, List.length_cons]
    show 1 + _ = _
    omega
theorem ok_lnames {f : Addr} {fd : FuncData} (F : Fun K "_law_names" "_law_names" s_lnames f fd) (T : Txt K mg aG aA) : FnOk P w K mg base CX0 1 f fd ["_law_cell", "_law_many"] (spD K R_lnames) := by
  have nd := sc_lnames.nd
  refine ok_data F sc_lnames (fun ds d ⟨_, _, h, _⟩ => by rw [h]; rfl) fun cdv A outer s H E ds d hr hR => ?_
  refine ⟨_, (pss_cons (ps_set (i := 2) nd rfl (Or.inr rfl) pe_str)
    (pss_cons (ps_set (i := 3) nd rfl (Or.inl rfl) (pe_op op_mod (pv 0) pe_int))
    (pss_cons (ps_set (i := 4) nd rfl (Or.inl rfl) (pe_join pe_str (pe_lc (own := [("_law_k", 5)]) (g := (gName 5)) (tt := tYes) rfl nd (pi_range1 (by rfl) T.range_ (pa_cons (pv 3) pa_nil)) (blkOk_by (own := [("_law_k", 5)]) (N := ["_law_cell", "_law_many", "_law_letters", "_law_size", "_law_word", "_law_k", "_law_at", "_law_found", "_law_name"]) (by kernel_rfl)) (fun _ _ _ _ _ => (pg_name (i := 5) nd rfl (Or.inl rfl))) (fun _ _ _ _ _ => pts_nil) (fun _ _ _ _ _ => (pe_ix ix_str (pv 2) (pe_op op_mod (pe_op op_fdiv (pe_op op_mod (pe_op op_mul (pv 0) (pe_op op_add pe_int (pe_op op_mul pe_int (pv 5)))) pe_int) pe_int) pe_int) (fun _ _ => rfl))))))
    (pss_cons (ps_set (i := 6) nd rfl (Or.inl rfl) (pe_op op_mod (pe_op op_fdiv (pv 0) pe_int) (pe_op op_add (pv 3) pe_int)))
    (pss_cons (ps_set (i := 7) nd rfl (Or.inl rfl) (pe_lst pa_nil))
    (pss_cons (ps_for PassesOwn.never rfl (pi_range1 (by rfl) T.range_ (pa_cons (pv 1) pa_nil)) (pg_name (i := 5) nd rfl (Or.inl rfl)) (pss_cons (ps_set (i := 8) nd rfl (Or.inl rfl) (pe_op op_add_str (pe_op op_add_str (pe_slice sl_str (pv 4) po_none (po_some (pv 6))) (pe_ix ix_str (pv 2) (pe_op op_mod (pe_op op_add (pe_op op_fdiv (pv 0) pe_int) (pv 5)) pe_int) (fun _ _ => rfl))) (pe_slice sl_str (pv 4) (po_some (pv 6)) po_none))) (pss_cons (ps_if (pt_cmpR op_in_seq (pv 8) (pe_lst (pa_cons pe_str (pa_cons pe_str (pa_cons pe_str (pa_cons pe_str (pa_cons pe_str (pa_cons pe_str (pa_cons pe_str (pa_cons pe_str (pa_cons pe_str (pa_cons pe_str (pa_cons pe_str (pa_cons pe_str pa_nil))))))))))))) rfl) (pss_one (ps_set (i := 8) nd rfl (Or.inl rfl) (pe_op op_add_str (pv 8) pe_str))) pss_nil) (pss_one (ps_expr (pe_bm PySem.F.plainAttrs_list PySem.F.slot_list_append PySem.F.type_list_append mt_append (pv 7) (pa_cons (pv 8) pa_nil)))))))
    (pss_one (ps_ret (pv 7))))))))), ?_⟩
  obtain ⟨c, n, rfl, hn, rfl⟩ := hR
  have hs := size_rng c
  have hs' : c % 8 = size c := rfl
  refine xr_seq (xn_set (d := .str abc) ve_str) ?_
  refine xr_seq (xn_set (d := .int (size c)) (by walk_at "ve")) ?_
  obtain ⟨m, hm⟩ : ∃ m : Nat, m = (size c).toNat := ⟨_, rfl⟩
  have ew : wordOf c = Txt.join "" ((List.range m).map fun (k : Nat) => one (letter (c * (48271 + 2 * (k : Int)) % 2147483647 / 9 % 26))) := by rw [hm]; rfl
  refine xr_seq (xn_set (d := .str (wordOf c)) ?_) ?_
  · rw [ew]
    have eL : ((List.range m).map fun (k : Nat) => one (letter (c * (48271 + 2 * (k : Int)) % 2147483647 / 9 % 26))) = ((List.range m).map fun (k : Nat) => letter (c * (48271 + 2 * (k : Int)) % 2147483647 / 9 % 26)).map one := by rw [List.map_map]; rfl
    refine ve_join ve_str ?_ ?_
    · rw [List.map_map]
      refine vl_lc (List.range m) (fun (k : Nat) => PyData.int (k : Int)) _ (vi_range (n := m) (va_cons (ve_eq (d := .int (size c)) (ve_var rfl) (by rw [hm]; exact congrArg PyData.int (by omega))) va_nil) (by omega)) (by rw [List.length_range]; omega) fun k hk => ⟨_, _, ?_, xg_name, vt_yes, ?_⟩
      · intro i hi
        exact hi
      · rw [List.mem_range] at hk
        have z := mod_lt (a := c * (48271 + 2 * (k : Int)) % 2147483647 / 9) (b := 26) (by decide)
        exact ve_op (ve_var rfl) (ve_op (ve_op (ve_op (ve_op (ve_var rfl) (ve_op ve_int (ve_op ve_int (ve_var rfl) (rd_intC (cmul_l (by decide) (by decide)))) rd_int) (rd_intC (cmul_r (by omega) (by omega)))) ve_int (rd_intC (by show (0 : Int) < 2147483647; decide))) ve_int (rd_intC ⟨by decide, by decide⟩)) ve_int (rd_intC (by show (0 : Int) < 26; decide))) (rd_ixS (z := abc) (by decide +kernel) (abc_at z.1 z.2))
    · rw [eL, ones_sum, List.length_map, List.length_range, List.length_map, List.length_map, List.length_range]
      have e0 : ("" : Str).length = 0 := by decide +kernel
      rw [e0]
      omega
  have hwl : (wordOf c).length ≤ 7 := by
    rw [tl_len, tl_word, word_len]
    omega
  refine xr_seq (xn_set (d := .int (at_ c)) (ve_op (by walk_at "ve") (by walk_at "ve") (rd_intC (by show (0 : Int) < size c + 1; omega)))) ?_
  refine xr_seq (xn_setL (vl_lst va_nil (Nat.zero_le _))) ?_
  refine xr_seq (xn_forE (δ' := [.val (.int c), .val (.int (n : Int)), .val (.str abc), .val (.int (size c)), .val (.str (wordOf c)), .no, .val (.int (at_ c)), .ml ((names c n).map .str), .no]) (upTo n)
    (fun k => [.val (.int c), .val (.int (n : Int)), .val (.str abc), .val (.int (size c)), .val (.str (wordOf c)), .no, .val (.int (at_ c)), .ml ((names c k).map .str), .no]) rfl (by rw [upTo_len]) (vi_range (va_cons (ve_var rfl) va_nil) (by omega)) fun k d h => ?_) (xr_retM rfl)
  obtain ⟨rfl, hk⟩ := upTo_at h
  refine ⟨_, _, xg_name, ?_⟩
  have z := mod_lt (a := c / 64 + (k : Int)) (b := 26) (by decide)
  have bl : (base_ c k).length ≤ 8 := by
    rw [tl_len, base_len]
    omega
  have l1 : (cutS (wordOf c) none (some (at_ c))).length ≤ 7 := Nat.le_trans (cutS_length _ _ _) hwl
  have l2 : (cutS (wordOf c) (some (at_ c)) none).length ≤ 7 := Nat.le_trans (cutS_length _ _ _) hwl
  have l3 : (cutS (wordOf c) none (some (at_ c)) ++ one (letter ((c / 64 + (k : Int)) % 26))).length ≤ 8 := by
    rw [tl_len, TL.tl_append, List.length_append, ← tl_len]
    show _ + 1 ≤ 8
    omega
  refine xn_seq (xn_set (d := .str (base_ c k)) (ve_op (ve_op (ve_cut (ve_var rfl) vo_none (vo_some (ve_var rfl)) (by omega)) (ve_op (ve_var rfl) (ve_op (by walk_at "ve") (by walk_at "ve") (rd_intC (by show (0 : Int) < 26; decide))) (rd_ixS (z := abc) (by decide +kernel) (abc_at z.1 z.2))) (rd_addS (by show _ + 1 ≤ 1000; omega)))
    (ve_cut (ve_var rfl) (vo_some (ve_var rfl)) vo_none (by omega)) (rd_addS (Nat.le_trans (Nat.add_le_add l3 l2) (by decide))))) ?_
  refine xn_seq (xn_if (k := decide (base_ c k ∈ taken)) (δ' := [.val (.int c), .val (.int (n : Int)), .val (.str abc), .val (.int (size c)), .val (.str (wordOf c)), .val (.int (k : Int)), .val (.int (at_ c)), .ml ((names c k).map .str), .val (.str (name_ c k))])
    (vt_eq (vt_test (ve_op (ve_var rfl) (vl_lst (va_cons ve_str (va_cons ve_str (va_cons ve_str (va_cons ve_str (va_cons ve_str (va_cons ve_str (va_cons ve_str (va_cons ve_str (va_cons ve_str (va_cons ve_str (va_cons ve_str (va_cons ve_str va_nil)))))))))))) (Nat.le_of_ble_eq_true rfl)).ve (rd_inL' rfl (flat_strs taken)))) (inV_strs _ _)) (fun h => ?_) (fun h => ?_)) ?_
  · have h := of_decide_eq_true h
    have e : name_ c k = base_ c k ++ "x" := if_pos h
    rw [e]
    have lx : ("x" : Str).length = 1 := by decide +kernel
    exact xn_set (ve_op (ve_var rfl) ve_str (rd_addS (by rw [lx]; omega)))
  · have h := of_decide_eq_false h
    have e : name_ c k = base_ c k := if_neg h
    rw [e]
    exact xn_next
  · refine (xn_app rfl (ve_var rfl) rfl (by rw [List.length_map, names_len]; omega)).weak ⟨.inr rfl, .inr rfl, .inr rfl, .inr rfl, .inr rfl, .inl rfl, .inr rfl, .inr ?_, .inl rfl, trivial⟩
    unfold names
    rw [List.range_succ, List.map_append, List.map_append]
    rfl
end
end K37
/-! Reckonings by boxes. -/
namespace K37
open PySem L2
/-- expressions whose readings are plain -/
local macro_rules | `(tactic| walk_at "ve") => `(tactic| first
  | exact ve_int | exact ve_str | exact ve_bl | exact ve_non | exact va_nil | exact vt_yes
  | exact ve_var rfl
  | (apply va_cons; (walk_at "ve"); (walk_at "ve"))
  | (apply ve_tup; (walk_at "ve"); (exact Nat.le_of_ble_eq_true rfl))
  | (apply VL.ve; apply vl_lst; (walk_at "ve"); (exact Nat.le_of_ble_eq_true rfl))
  | (apply ve_op; (walk_at "ve"); (walk_at "ve"); (walk_at "rd"))
  | (apply vt_test; (walk_at "ve"))
  | (apply vt_B; (walk_at "ve"))
  | (apply ve_notV; (walk_at "ve"))
  | (apply vt_not; (walk_at "ve"))
  | (apply vt_or; (walk_at "ve"); (intro _; (walk_at "ve")))
  | (apply vt_and; (walk_at "ve"); (intro _; (walk_at "ve")))
  | (apply ve_glob; first | exact Txt.dG (by assumption) | exact Txt.dA (by assumption)))
local macro_rules | `(tactic| walk_at "rd") => `(tactic| first
  | exact rd_int | exact rd_bool | exact rd_eqS | exact rd_eqI | exact rd_neI
  | exact rd_ixT rfl | exact rd_ixL rfl | exact rd_inT' rfl rfl | exact rd_inL' rfl rfl | exact rd_niT' rfl rfl | exact rd_niL' rfl rfl
  | (apply rd_intC; first | assumption | decide | (show (0 : Int) < _; decide) | (constructor <;> decide) | (constructor <;> first | decide | (constructor <;> decide))))
/-- an if whose test is known: no, on; yes, its return -/
local macro_rules | `(tactic| walk_at "no") => `(tactic| (apply xr_when; (walk_at "ve"); (intro h; exact absurd h (by decide +kernel)); intro _))
local macro_rules | `(tactic| walk_at "yes") => `(tactic| (apply xr_when; (walk_at "ve"); (intro _; apply xr_ret; (walk_at "ve")); (intro h; exact absurd h (by decide +kernel))))
local macro_rules | `(tactic| walk_at "ret") => `(tactic| (apply xr_ret; (walk_at "ve")))
local macro_rules | `(tactic| walk_at "set") => `(tactic| (apply xr_seq; (apply xn_set; (walk_at "ve"))))
section
variable {P : Program} {w : World} {K : PySem.W.Frag} {mg : Str → Option Value} {base : Heap} {aG aA : Addr} {δ : List Slot} {ta tb te tx ty : TE}
/-- a dict of boxes -/
def DkF (kvs : Bx) : V → Hp → Hp → Prop := fun v _ H => ∃ b, v = .ref b ∧ H b = some (.dK kvs)
theorem DkF.keeps (kvs : Bx) : Keeps (DkF kvs) := fun v B H B' H' t ⟨b, e, h⟩ => ⟨b, e, t.h _ _ h⟩
theorem ve_get {i m : Nat} {k : Int} {kvs : Bx} (h : δ[i]? = some (.fact (DkF kvs))) (hy : VE K ty δ (.int k)) (hx : VE K tx δ (.int 0)) (ok : BOk m kvs) : VE K (tDGet2 (tVar i) ty tx) δ (.int (gB kvs k)) := fun B0 H0 B H σ s Q q => by
  obtain ⟨v, e, ⟨b, rfl, hb⟩, _⟩ := s.at_ i _ h
  refine ⟨_, e, b, rfl, .inl ⟨kvs, .inl hb⟩, hy B0 H0 B H σ s _ fun y B1 H1 t1 dy => hx B0 H0 B1 H1 σ (s.step t1) _ fun z B2 H2 t2 dz => ?_⟩
  cases dy; cases dz
  refine ⟨valV kvs (.inl k), DGet.k (k := .inl k) ((t1.trans t2).h _ _ hb), ?_⟩
  rw [(ok.all k).1]
  exact q _ B2 H2 (t1.trans t2) (.int _)
def R_worth (n : Nat) (xs : List Slot) (d : PyData) : Prop := ∃ (t : Rk) (kvs : Bx) (m : Nat), xs = [.val (rkD t), .fact (DkF kvs)] ∧ t.Ok ∧ t.dep < n ∧ BOk m kvs ∧ d = .int (wr kvs t)
theorem sc_worth : FnScope ["one", "boxes"] ["one", "boxes"] (defScope s_worth) := ⟨rfl, rfl, rfl, by decide +kernel, rfl, by decide +kernel, by decide +kernel⟩
theorem ok_worth {n : Nat} {f : Addr} {fd : FuncData} (F : Fun K "worth" "worth" s_worth f fd) (T : Txt K mg aG aA) (c_value : C8.Cal P w K mg base 1 "value" (spD K R_val) []) (c_worth : C8.Cal P w K mg base (n + 1) "worth" (spS K (R_worth n)) []) : FnOk P w K mg base CX0 (n + 2) f fd ["one", "boxes"] (spS K (R_worth (n + 1))) := by
  have nd := sc_worth.nd
  refine ok_dataS F sc_worth (fun ds d ⟨_, _, _, h, _⟩ => by rw [h]; rfl) fun cdv A outer s H E ds d hr hR => ?_
  have hu := hu_of hr
  refine ⟨_, (pss_cons (ps_if (pt_cmpR op_eq (pe_ix ix_tup (pv 0) pe_int (fun _ _ => rfl)) pe_str (nomark _)) (pss_one (ps_ret (pe_dget2 hu (pv 1) (pe_ix ix_tup (pv 0) pe_int (fun _ _ => rfl)) pe_int (by exact ⟨rfl, rfl, rfl, rfl⟩)))) pss_nil)
    (pss_cons (ps_if (pt_cmpR op_eq (pe_ix ix_tup (pv 0) pe_int (fun _ _ => rfl)) pe_str (nomark _)) (pss_one (ps_ret (pe_ix ix_tup (pv 0) pe_int (fun _ _ => rfl)))) pss_nil)
    (pss_one (ps_ret (C8.pe_c c_value hr (by omega) (by rfl) (pa_cons (pe_ix ix_tup (pv 0) pe_int (fun _ _ => rfl)) (pa_cons (C8.pe_c c_worth hr (by omega) (by rfl) (pa_cons (pe_ix ix_tup (pv 0) pe_int (fun _ _ => rfl)) (pa_cons (pv 1) pa_nil))) (pa_cons (C8.pe_c c_worth hr (by omega) (by rfl) (pa_cons (pe_ix ix_tup (pv 0) pe_int (fun _ _ => rfl)) (pa_cons (pv 1) pa_nil))) pa_nil)))))))), ?_⟩
  obtain ⟨t, kvs, m, rfl, ho, hd, ok, rfl⟩ := hR
  cases t with
  | box k =>
    apply xr_when
    · walk_at "ve"
    · intro _
      exact xr_ret (ve_get rfl (ve_op (ve_var rfl) ve_int (rd_ixT (ds := [.str "box", .int k]) rfl)) ve_int ok)
    · intro h
      exact absurd h (by decide +kernel)
  | num n =>
    walk_at "no"
    apply xr_when
    · walk_at "ve"
    · intro _
      exact xr_ret (ve_op (ve_var rfl) ve_int (rd_ixT (ds := [.str "num", .int n]) rfl))
    · intro h
      exact absurd h (by decide +kernel)
  | op s l r =>
    have hs := ho.1
    have h1 : ¬ s = "box" := fun e => by
      rw [e] at hs
      exact absurd hs (by decide +kernel)
    have h2 : ¬ s = "num" := fun e => by
      rw [e] at hs
      exact absurd hs (by decide +kernel)
    have hdl : l.dep < n := by
      have : max l.dep r.dep + 1 < n + 1 := hd
      omega
    have hdr : r.dep < n := by
      have : max l.dep r.dep + 1 < n + 1 := hd
      omega
    apply xr_when
    · walk_at "ve"
    · intro h
      exact absurd (of_decide_eq_true h) h1
    intro _
    apply xr_when
    · walk_at "ve"
    · intro h
      exact absurd (of_decide_eq_true h) h2
    intro _
    exact xr_ret (ve_call (va_cons (ve_op (ve_var rfl) ve_int (rd_ixT (ds := [.str s, rkD l, rkD r]) rfl)) (va_cons (ve_callS (vsa_cons (ve_op (ve_var rfl) ve_int (rd_ixT (ds := [.str s, rkD l, rkD r]) rfl)).vs (vsa_cons (vs_var rfl) vsa_nil)) ⟨l, kvs, m, rfl, ho.2.1, hdl, ok, rfl⟩)
      (va_cons (ve_callS (vsa_cons (ve_op (ve_var rfl) ve_int (rd_ixT (ds := [.str s, rkD l, rkD r]) rfl)).vs (vsa_cons (vs_var rfl) vsa_nil)) ⟨r, kvs, m, rfl, ho.2.2, hdr, ok, rfl⟩) va_nil))) ⟨s, _, _, rfl, wr_rng ok l ho.2.1, wr_rng ok r ho.2.2, rfl⟩)
theorem sc_lworth : FnScope ["_law_one", "_law_boxes"] ["_law_one", "_law_boxes"] (defScope s_lworth) := ⟨rfl, rfl, rfl, by decide +kernel, rfl, by decide +kernel, by decide +kernel⟩
theorem ok_lworth {n : Nat} {f : Addr} {fd : FuncData} (F : Fun K "_law_worth" "_law_worth" s_lworth f fd) (T : Txt K mg aG aA) (c_lvalue : C8.Cal P w K mg base 1 "_law_value" (spD K R_val) []) (c_lworth : C8.Cal P w K mg base (n + 1) "_law_worth" (spS K (R_worth n)) []) : FnOk P w K mg base CX0 (n + 2) f fd ["_law_one", "_law_boxes"] (spS K (R_worth (n + 1))) := by
  have nd := sc_lworth.nd
  refine ok_dataS F sc_lworth (fun ds d ⟨_, _, _, h, _⟩ => by rw [h]; rfl) fun cdv A outer s H E ds d hr hR => ?_
  have hu := hu_of hr
  refine ⟨_, (pss_cons (ps_if (pt_cmpR op_eq (pe_ix ix_tup (pv 0) pe_int (fun _ _ => rfl)) pe_str (nomark _)) (pss_one (ps_ret (pe_dget2 hu (pv 1) (pe_ix ix_tup (pv 0) pe_int (fun _ _ => rfl)) pe_int (by exact ⟨rfl, rfl, rfl, rfl⟩)))) pss_nil)
    (pss_cons (ps_if (pt_cmpR op_eq (pe_ix ix_tup (pv 0) pe_int (fun _ _ => rfl)) pe_str (nomark _)) (pss_one (ps_ret (pe_ix ix_tup (pv 0) pe_int (fun _ _ => rfl)))) pss_nil)
    (pss_one (ps_ret (C8.pe_c c_lvalue hr (by omega) (by rfl) (pa_cons (pe_ix ix_tup (pv 0) pe_int (fun _ _ => rfl)) (pa_cons (C8.pe_c c_lworth hr (by omega) (by rfl) (pa_cons (pe_ix ix_tup (pv 0) pe_int (fun _ _ => rfl)) (pa_cons (pv 1) pa_nil))) (pa_cons (C8.pe_c c_lworth hr (by omega) (by rfl) (pa_cons (pe_ix ix_tup (pv 0) pe_int (fun _ _ => rfl)) (pa_cons (pv 1) pa_nil))) pa_nil)))))))), ?_⟩
  obtain ⟨t, kvs, m, rfl, ho, hd, ok, rfl⟩ := hR
  cases t with
  | box k =>
    apply xr_when
    · walk_at "ve"
    · intro _
      exact xr_ret (ve_get rfl (ve_op (ve_var rfl) ve_int (rd_ixT (ds := [.str "box", .int k]) rfl)) ve_int ok)
    · intro h
      exact absurd h (by decide +kernel)
  | num n =>
    walk_at "no"
    apply xr_when
    · walk_at "ve"
    · intro _
      exact xr_ret (ve_op (ve_var rfl) ve_int (rd_ixT (ds := [.str "num", .int n]) rfl))
    · intro h
      exact absurd h (by decide +kernel)
  | op s l r =>
    have hs := ho.1
    have h1 : ¬ s = "box" := fun e => by
      rw [e] at hs
      exact absurd hs (by decide +kernel)
    have h2 : ¬ s = "num" := fun e => by
      rw [e] at hs
      exact absurd hs (by decide +kernel)
    have hdl : l.dep < n := by
      have : max l.dep r.dep + 1 < n + 1 := hd
      omega
    have hdr : r.dep < n := by
      have : max l.dep r.dep + 1 < n + 1 := hd
      omega
    apply xr_when
    · walk_at "ve"
    · intro h
      exact absurd (of_decide_eq_true h) h1
    intro _
    apply xr_when
    · walk_at "ve"
    · intro h
      exact absurd (of_decide_eq_true h) h2
    intro _
    exact xr_ret (ve_call (va_cons (ve_op (ve_var rfl) ve_int (rd_ixT (ds := [.str s, rkD l, rkD r]) rfl)) (va_cons (ve_callS (vsa_cons (ve_op (ve_var rfl) ve_int (rd_ixT (ds := [.str s, rkD l, rkD r]) rfl)).vs (vsa_cons (vs_var rfl) vsa_nil)) ⟨l, kvs, m, rfl, ho.2.1, hdl, ok, rfl⟩)
      (va_cons (ve_callS (vsa_cons (ve_op (ve_var rfl) ve_int (rd_ixT (ds := [.str s, rkD l, rkD r]) rfl)).vs (vsa_cons (vs_var rfl) vsa_nil)) ⟨r, kvs, m, rfl, ho.2.2, hdr, ok, rfl⟩) va_nil))) ⟨s, _, _, rfl, wr_rng ok l ho.2.1, wr_rng ok r ho.2.2, rfl⟩)
/-- nothing is asked with no depth -/
theorem none_worth {k : Nat} {f : Addr} {fd : FuncData} {ps : List Str} : FnOk P w K mg base CX0 k f fd ps (spS K (R_worth 0)) := by
  have no : ∀ vs H Q E, ¬ spS K (R_worth 0) vs H Q E := fun vs H Q E h => by
    obtain ⟨_, _, _, _, _, ⟨_, _, _, _, _, h, _⟩, _⟩ := h
    omega
  exact ⟨fun vs H Q E h => absurd h (no vs H Q E), fun A outer s H args us vs Q E _ _ _ _ h => absurd h (no vs H Q E)⟩
theorem all_worth {f : Addr} {fd : FuncData} (F : Fun K "worth" "worth" s_worth f fd) (b : Binds K fd ["one", "boxes"] []) (hm : mg "worth" = some (.ref f)) (T : Txt K mg aG aA) (c_value : C8.Cal P w K mg base 1 "value" (spD K R_val) []) : ∀ n : Nat, C8.Cal P w K mg base (n + 1) "worth" (spS K (R_worth n)) []
  | 0 => ⟨f, fd, _, [], none_worth, hm, F.kp, b, .nil⟩
  | n + 1 => ⟨f, fd, _, [], ok_worth F T c_value (all_worth F b hm T c_value n), hm, F.kp, b, .nil⟩
theorem all_lworth {f : Addr} {fd : FuncData} (F : Fun K "_law_worth" "_law_worth" s_lworth f fd) (b : Binds K fd ["_law_one", "_law_boxes"] []) (hm : mg "_law_worth" = some (.ref f)) (T : Txt K mg aG aA) (c_lvalue : C8.Cal P w K mg base 1 "_law_value" (spD K R_val) []) : ∀ n : Nat, C8.Cal P w K mg base (n + 1) "_law_worth" (spS K (R_worth n)) []
  | 0 => ⟨f, fd, _, [], none_worth, hm, F.kp, b, .nil⟩
  | n + 1 => ⟨f, fd, _, [], ok_lworth F T c_lvalue (all_lworth F b hm T c_lvalue n), hm, F.kp, b, .nil⟩
end
end K37
/-! Frames of the code's own: made, kept, settled; the law's sets. -/
namespace K37
open PySem L2
section
variable {P : Program} {w : World} {K : PySem.W.Frag} {mg : Str → Option Value} {base : Heap} {aG aA : Addr} {δ : List Slot} {ta tb te tx ty : TE}
/-! ### the fields of a frame -/
def ffs (own : Str) (spot : Int) (b : Addr) : List (Str × V) := [("owner", .str own), ("spot", .int spot), ("boxes", .ref b)]
theorem ffs_owner (own : Str) (k : Int) (b : Addr) : (ffs own k b).lookup ("owner" : Str) = some (.str own) := by kernel_rfl
theorem ffs_spot (own : Str) (k : Int) (b : Addr) : (ffs own k b).lookup ("spot" : Str) = some (.int k) := by kernel_rfl
theorem ffs_boxes (own : Str) (k : Int) (b : Addr) : (ffs own k b).lookup ("boxes" : Str) = some (.ref b) := by kernel_rfl
theorem ffs_keep (own : Str) (k : Int) (b : Addr) : (ffs own k b).lookup ("keep" : Str) = none := by kernel_rfl
theorem ffs_worths (own : Str) (k : Int) (b : Addr) : (ffs own k b).lookup ("worths" : Str) = none := by kernel_rfl
theorem ffs_settle (own : Str) (k : Int) (b : Addr) : (ffs own k b).lookup ("settle" : Str) = none := by kernel_rfl
theorem ffs_put (own : Str) (k j : Int) (b : Addr) : putF "spot" (.int j) (ffs own k b) = ffs own j b := by kernel_rfl
theorem ffs_new (own : Str) (b : Addr) : putF "boxes" (.ref b) (putF "spot" (.int 0) (putF "owner" (.str own) [])) = ffs own 0 b := by kernel_rfl
structure CFt (K : PySem.W.Frag) (CF : Addr) : Prop where
  cl : Cls K CF
  nO : NoAttr K CF "owner"
  nS : NoAttr K CF "spot"
  nB : NoAttr K CF "boxes"
/-! ### keep -/
def optV : Option Int → V
  | none => .non
  | some k => .int k
def keptH (H : Hp) (b : Addr) (kvs : Bx) (n : Int) : Option Int → Hp
  | none => H
  | some k => upd H b (.dK (putK kvs (.inl k) (.int n)))
def spKeep (CF : Addr) : Sp := fun vs H Q _ => ∃ (f dx b : Addr) (own : Str) (spot : Int) (kvs : Bx) (bx : Option Int) (n : Int), vs = [.ref f, optV bx, .int n] ∧ H f = some (.ins CF dx (ffs own spot b)) ∧ H b = some (.dK kvs) ∧ kvs.length ≤ 1000 ∧ Q .non (keptH H b kvs n bx)
theorem sc_keep : FnScope ["self", "box", "number"] ["self", "box", "number"] (defScope s_keep) := ⟨rfl, rfl, rfl, by decide +kernel, rfl, by decide +kernel, by decide +kernel⟩
theorem ok_keep {f CF : Addr} {fd : FuncData} (F : Fun K "keep" "CodeFrame.keep" s_keep f fd) (T : Txt K mg aG aA) (C : CFt K CF) : FnOk P w K mg base CX0 1 f fd ["self", "box", "number"] (spKeep CF) := by
  have nd := sc_keep.nd
  refine F.ok sc_keep (fun vs H Q E h => ?_) (fun cdv A outer s H vs Q E hr h => ?_)
  · obtain ⟨_, _, _, _, _, _, _, _, rfl, _⟩ := h
    rfl
  have hu := hu_of hr
  obtain ⟨f, dx, b, own, spot, kvs, bx, n, rfl, hf, hb, hl, q⟩ := h
  refine ⟨_, (pss_one (ps_if (pt_cmp (pc_notN (pv 1))) (pss_one (ps_dput hu (pe_fld (pv 0) rfl) (pv 1) (pv 2) rfl)) pss_nil)), ?_⟩
  cases bx with
  | none =>
    refine ⟨_, rfl, _, rfl, ?_⟩
    exact iteF q
  | some k =>
    refine ⟨_, rfl, _, rfl, ?_⟩
    refine iteT ?_
    exact ⟨_, rfl, _, rfl, f, CF, dx, _, _, rfl, hf, C.cl, C.nB, ffs_boxes _ _ _, _, rfl, b, _, rfl, DPut.k (k := .inl k) hb (small1000 hl), q⟩
/-! ### worths -/
/-- a frame with its boxes -/
def FbF (CF : Addr) (kvs : Bx) : V → Hp → Hp → Prop := fun v _ H => ∃ (f dx b : Addr) (own : Str) (spot : Int), v = .ref f ∧ H f = some (.ins CF dx (ffs own spot b)) ∧ H b = some (.dK kvs)
theorem FbF.keeps (CF : Addr) (kvs : Bx) : Keeps (FbF CF kvs) := fun v B H B' H' t ⟨f, dx, b, own, spot, e, h1, h2⟩ => ⟨f, dx, b, own, spot, e, t.h _ _ h1, t.h _ _ h2⟩
theorem vs_boxes {CF : Addr} {kvs : Bx} {i : Nat} (C : CFt K CF) (h : δ[i]? = some (.fact (FbF CF kvs))) : VS K (tFld K (tVar i) "boxes") δ (.fact (DkF kvs)) := fun B0 H0 B H σ s Q q => by
  obtain ⟨v, e, ⟨f, dx, b, own, spot, rfl, h1, h2⟩, _⟩ := s.at_ i _ h
  exact ⟨_, e, f, CF, dx, _, _, rfl, h1, C.cl, C.nB, ffs_boxes _ _ _, q _ B H (.refl s.bh) ⟨_, rfl, ⟨b, rfl, h2⟩, DkF.keeps kvs⟩⟩
def R_worths (CF : Addr) (xs : List Slot) (d : PyData) : Prop := ∃ (kvs : Bx) (m : Nat) (ts : List Rk), xs = [.fact (FbF CF kvs), .val (.list (ts.map rkD))] ∧ BOk m kvs ∧ ts.length ≤ 100 ∧ (∀ t ∈ ts, t.Ok ∧ t.dep < 3) ∧ d = .list (ts.map fun t => .int (wr kvs t))
theorem sc_worths : FnScope ["self", "some", "one"] ["self", "some"] (defScope s_worths) := ⟨rfl, rfl, rfl, by decide +kernel, rfl, by decide +kernel, by decide +kernel⟩
theorem ok_worths {f CF : Addr} {fd : FuncData} (F : Fun K "worths" "CodeFrame.worths" s_worths f fd) (T : Txt K mg aG aA) (C : CFt K CF) (c_worth : C8.Cal P w K mg base 4 "worth" (spS K (R_worth 3)) []) : FnOk P w K mg base CX0 5 f fd ["self", "some"] (spS K (R_worths CF)) := by
  have nd := sc_worths.nd
  refine ok_dataS F sc_worths (fun ds d ⟨_, _, _, h, _⟩ => by rw [h]; rfl) fun cdv A outer s H E ds d hr hR => ?_
  refine ⟨_, (pss_one (ps_ret (pe_lc (own := [("one", 2)]) (g := (gName 2)) (tt := tYes) rfl nd (pi_list (pv 1)) (blkOk_by (own := [("one", 2)]) (N := ["self", "some", "one"]) (by kernel_rfl)) (fun _ _ _ _ _ => (pg_name (i := 2) nd rfl (Or.inl rfl))) (fun _ _ _ _ _ => pts_nil) (fun _ _ _ _ _ => (C8.pe_c c_worth hr (by omega) (by rfl) (pa_cons (pv 2) (pa_cons (pe_fldK (K := K) rfl (pv 0) rfl) pa_nil))))))), ?_⟩
  obtain ⟨kvs, m, ts, rfl, ok, hl, ho, rfl⟩ := hR
  refine xr_ret (vl_lc ts rkD _ (vi_list (ve_var rfl)) (by omega) fun t ht => ⟨_, _, ?_, xg_name, vt_yes, ?_⟩).ve
  · intro i hi
    exact hi
  · exact ve_callS (vsa_cons (ve_var rfl).vs (vsa_cons (vs_boxes C rfl) vsa_nil)) ⟨t, kvs, m, rfl, (ho t ht).1, (ho t ht).2, ok, rfl⟩
/-! ### settle -/
def spSettle (K : PySem.W.Frag) (CF : Addr) : Sp := fun vs H Q _ => ∃ (B : Hp) (f dx b : Addr) (own : Str) (spot : Int) (kvs : Bx) (m : Nat) (l : Sets) (v : V), vs = [.ref f, v] ∧ Same B H ∧ H f = some (.ins CF dx (ffs own spot b)) ∧ H b = some (.dK kvs) ∧ BOk m kvs ∧ m ≤ 100 ∧
  Dp K B v (setsD l) ∧ l.Ok ∧ l.length ≤ 10 ∧ B b = none ∧ ∀ H', Keep b H H' → H' b = some (.dK (setB kvs l)) → Q .non H'
theorem sc_settle : FnScope ["self", "sets", "numbers", "one", "box", "pair", "number"] ["self", "sets"] (defScope s_settle) := ⟨rfl, rfl, rfl, by decide +kernel, rfl, by decide +kernel, by decide +kernel⟩
theorem ok_settle {f CF : Addr} {fd : FuncData} (F : Fun K "settle" "CodeFrame.settle" s_settle f fd) (T : Txt K mg aG aA) (C : CFt K CF) (m_worths : C8.Met P w K mg base 5 CF "worths" (spS K (R_worths CF)) []) (m_keep : C8.Met P w K mg base 1 CF "keep" (spKeep CF) []) :
    FnOk P w K mg base CX0 6 f fd ["self", "sets"] (spSettle K CF) := by
  have nd := sc_settle.nd
  refine F.ok sc_settle (fun vs H Q E h => ?_) (fun cdv A outer s H vs Q E hr h => ?_)
  · obtain ⟨_, _, _, _, _, _, _, _, _, _, rfl, _⟩ := h
    rfl
  obtain ⟨B, f, dx, b, own, spot, kvs, m, l, v, rfl, bh, hf, hb, ok, hm, dv, ho, hl, nb, q⟩ := h
  refine ⟨_, (pss_cons (ps_set (i := 2) nd rfl (Or.inl rfl) (C8.pe_mt m_worths hr (by omega) (pv 0) (pa_cons (pe_lc (own := [("box", 4), ("one", 3)]) (g := (gTup K 2 (gCons (gName 4) (gCons (gName 3) gNil)))) (tt := tYes) rfl nd (pi_list (pv 1)) (blkOk_by (own := [("box", 4), ("one", 3)]) (N := ["self", "sets", "numbers", "one", "box", "pair", "number"]) (by kernel_rfl)) (fun _ _ _ _ _ => (pg_tup rfl (pgs_cons (pg_name (i := 4) nd rfl (Or.inl rfl)) (pgs_cons (pg_name (i := 3) nd rfl (Or.inl rfl)) pgs_nil)))) (fun _ _ _ _ _ => pts_nil) (fun _ _ _ _ _ => (pv 3))) pa_nil)))
    (pss_one (ps_for PassesOwn.never rfl (pi_zip (by rfl) T.zip_ (pa_cons (pv 1) (pa_cons (pv 2) pa_nil))) (pg_tup rfl (pgs_cons (pg_name (i := 5) nd rfl (Or.inl rfl)) (pgs_cons (pg_name (i := 6) nd rfl (Or.inl rfl)) pgs_nil))) (pss_one (ps_expr (C8.pe_mt m_keep hr (by omega) (pv 0) (pa_cons (pe_ix ix_tup (pv 5) pe_int (fun _ _ => rfl)) (pa_cons (pv 6) pa_nil)))))))), ?_⟩
  have s0 : S K B H B H (L2.start ["self", "sets", "numbers", "one", "box", "pair", "number"] [.ref f, v]) [.raw (.ref f), .val (setsD l), .no, .no, .no, .no, .no] := start_SS bh (.rw_ (.vl dv .nil))
  have em : (l.map fun p => rkD p.2) = (l.map (·.2)).map rkD := by
    rw [List.map_map]
    rfl
  obtain ⟨ws, hws⟩ : ∃ ws : List PyData, ws = (l.map (·.2)).map fun t => PyData.int (wr kvs t) := ⟨_, rfl⟩
  have lws : ws.length = l.length := by rw [hws, List.length_map, List.length_map]
  refine h_asg ?_
  refine ⟨_, rfl, f, dx, _, rfl, hf, ffs_worths _ _ _, ?_⟩
  refine va_cons (vl_lc (K := K) l setD (fun p => rkD p.2) (vi_list (ve_var rfl)) (by omega) fun p hp => ⟨_, _, fun i hi => hi, xg_tup (xgs_cons (is := [4]) xg_name (xgs_cons (is := [3]) xg_name xgs_nil)) rfl, vt_yes, ve_var rfl⟩).ve va_nil B H B H _ s0 _ fun vs1 B1 H1 t1 d1 => ?_
  cases d1 with
  | cons da db =>
  cases db
  rw [em] at da
  refine ⟨B1, [.fact (FbF CF kvs), .val (.list ((l.map (·.2)).map rkD))], .list ws, t1.bh, .ft ⟨f, dx, b, own, spot, rfl, t1.h _ _ hf, t1.h _ _ hb⟩ (FbF.keeps CF kvs) (.vl da .nil), ⟨kvs, m, l.map (·.2), rfl, ok, by rw [List.length_map]; omega, fun t ht => ?_, by rw [hws]⟩, fun v2 B2 H2 t2 d2 => ?_⟩
  · obtain ⟨p, hp, rfl⟩ := List.mem_map.mp ht
    exact ho p hp
  have s2 := ((s0.step t1).step t2).val 2 d2
  show tFor _ _ _ _ _ _
  refine vi_zip (K := K) (ds := l.map setD) (es := ws) (ve_var (i := 1) rfl) (ve_var (i := 2) rfl) (by rw [List.length_map, lws]) B H B2 H2 _ s2 _ fun J B3 H3 t3 wd => ?_
  obtain ⟨G, Y, wk, hG, hY⟩ := wd.ex
  have t123 : Tr B H B3 H3 := (t1.trans t2).trans t3
  have hlen : (zipD (l.map setD) ws).length = l.length := by
    rw [zipD_len (by rw [List.length_map, lws]), List.length_map]
  rw [hlen] at wk
  refine for_it wk (fun i σ H' => ∃ B', Same B3 B' ∧ S K B' H' B' H' σ [.raw (.ref f), .val (setsD l), .val (.list ws), .no, .no, .no, .no] ∧ B' b = none ∧ H' f = some (.ins CF dx (ffs own spot b)) ∧ H' b = some (.dK (putAll kvs ((news kvs l).take i))) ∧ Keep b H H')
    ⟨B3, Same.refl B3, (s2.step t3).re rfl t3.bh, t123.out nb hb, t123.h _ _ hf, t123.h _ _ hb, .of t123.h⟩ (fun i σ H' _ ⟨B', e, z, _⟩ => hG H' (e.trans z.bh)) ?_ ?_
  · rintro i x σ H4 H5 hi ⟨B', e, z, nb', hf', hb', kp⟩ y
    have hp : l[i]? = some l[i] := List.getElem?_eq_getElem hi
    have hd : (zipD (l.map setD) ws)[i]? = some (.tuple [setD l[i], .int (wr kvs l[i].2)]) := by
      unfold zipD
      rw [hws, List.getElem?_zipWith, List.getElem?_map, List.getElem?_map, List.getElem?_map, hp]
      rfl
    obtain ⟨B5, r5, dx5⟩ := hY i x B' H4 H5 _ e z.bh hd y
    refine xg_tup (K := K) (xgs_cons (is := [5]) xg_name (xgs_cons (is := [6]) xg_name xgs_nil)) rfl B' H4 B5 H5 σ x (z.step r5) dx5 _ fun σ1 s1 _ => ?_
    refine ⟨_, s1.at_ 0 (.raw (.ref f)) rfl, f, dx, _, rfl, r5.h _ _ hf', ffs_keep _ _ _, ?_⟩
    refine va_cons (ve_op (ve_var (i := 5) rfl) ve_int (rd_ixT (ds := [.int l[i].1, rkD l[i].2]) (d := .int l[i].1) rfl)) (va_cons (ve_var (i := 6) rfl) va_nil) B' H4 B5 H5 σ1 s1 _ fun vs6 B6 H6 t6 d6 => ?_
    cases d6 with
    | cons d7 d8 =>
    cases d8 with
    | cons d8 d9 =>
    cases d7; cases d8; cases d9
    have t56 : Tr B' H4 B6 H6 := r5.trans t6
    have hb6 := t56.h _ _ hb'
    have hl6 : (putAll kvs ((news kvs l).take i)).length ≤ 1000 := by
      have z2 := (putAll_ok ok (ps := (news kvs l).take i) (fun p hp => news_rng ok ho p (List.mem_of_mem_take hp))).len
      rw [List.length_take] at z2
      have : (news kvs l).length = l.length := by unfold news; rw [List.length_map]
      omega
    refine ⟨f, dx, b, own, spot, _, some l[i].1, wr kvs l[i].2, rfl, t56.h _ _ hf', hb6, hl6, ?_⟩
    have nbf : f ≠ b := ne_of (t56.h _ _ hf') hb6 (by intro q; cases q)
    refine ⟨B6, e.trans t56.b, ((s1.step t6).weak (δ' := [.raw (.ref f), .val (setsD l), .val (.list ws), .no, .no, .no, .no]) ⟨.inr rfl, .inr rfl, .inr rfl, .inr rfl, .inr rfl, .inl rfl, .inl rfl, trivial⟩).re rfl (same_upd t6.bh (t56.out nb' hb')), t56.out nb' hb', by show upd H6 b _ f = _; rw [upd_ne nbf]; exact t56.h _ _ hf', ?_, (kp.trans (.of t56.h)).trans .upd⟩
    have hn : (news kvs l)[i]? = some (l[i].1, wr kvs l[i].2) := by
      unfold news
      rw [List.getElem?_map, hp]
      rfl
    rw [putAll_take kvs (news kvs l) hn]
    exact upd_same
  · rintro σ H4 ⟨B', e, z, nb', hf', hb', kp⟩
    refine q H4 kp ?_
    have : (news kvs l).length = l.length := by unfold news; rw [List.length_map]
    rw [hb', ← this, List.take_length]
    rfl
/-! ### the law's sets -/
def spLset (K : PySem.W.Frag) : Sp := fun vs H Q _ => ∃ (B : Hp) (b : Addr) (kvs : Bx) (m : Nat) (l : Sets) (v : V), vs = [v, .ref b] ∧ Same B H ∧ H b = some (.dK kvs) ∧ BOk m kvs ∧ m ≤ 100 ∧ Dp K B v (setsD l) ∧ l.Ok ∧ l.length ≤ 10 ∧ B b = none ∧ ∀ H', Keep b H H' → H' b = some (.dK (setB kvs l)) → Q .non H'
theorem sc_lset : FnScope ["_law_sets_here", "_law_boxes", "_law_news", "_law_box", "_law_one", "_law_number_here"] ["_law_sets_here", "_law_boxes"] (defScope s_lset) := ⟨rfl, rfl, rfl, by decide +kernel, rfl, by decide +kernel, by decide +kernel⟩
theorem ok_lset {f : Addr} {fd : FuncData} (F : Fun K "_law_set" "_law_set" s_lset f fd) (T : Txt K mg aG aA) (c_lworth : C8.Cal P w K mg base 4 "_law_worth" (spS K (R_worth 3)) []) : FnOk P w K mg base CX0 5 f fd ["_law_sets_here", "_law_boxes"] (spLset K) := by
  have nd := sc_lset.nd
  refine F.ok sc_lset (fun vs H Q E h => ?_) (fun cdv A outer s H vs Q E hr h => ?_)
  · obtain ⟨_, _, _, _, _, _, rfl, _⟩ := h
    rfl
  have hu := hu_of hr
  obtain ⟨B, b, kvs, m, l, v, rfl, bh, hb, ok, hm, dv, ho, hl, nb, q⟩ := h
  refine ⟨_, (pss_cons (ps_setLc (i := 2) (own := [("_law_box", 3), ("_law_one", 4)]) (g := (gTup K 2 (gCons (gName 3) (gCons (gName 4) gNil)))) (tt := tYes) (by rfl) nd rfl rfl (sw_true rfl rfl rfl (by decide +kernel)) (pi_list (pv 0)) (blkOk_by (own := [("_law_box", 3), ("_law_one", 4)]) (N := ["_law_sets_here", "_law_boxes", "_law_news", "_law_box", "_law_one", "_law_number_here"]) (by kernel_rfl)) (fun _ _ _ _ _ => (pg_tup rfl (pgs_cons (pg_name (i := 3) nd rfl (Or.inl rfl)) (pgs_cons (pg_name (i := 4) nd rfl (Or.inl rfl)) pgs_nil)))) (fun _ _ _ _ _ => pts_nil) (fun _ _ _ _ _ => (pe_tup (pa_cons (pv 3) (pa_cons (C8.pe_c c_lworth hr (by omega) (by rfl) (pa_cons (pv 4) (pa_cons (pv 1) pa_nil))) pa_nil)))))
    (pss_one (ps_for PassesOwn.never rfl (pi_list (pv 2)) (pg_tup rfl (pgs_cons (pg_name (i := 3) nd rfl (Or.inl rfl)) (pgs_cons (pg_name (i := 5) nd rfl (Or.inl rfl)) pgs_nil))) (pss_one (ps_dput hu (pv 1) (pv 3) (pv 5) rfl))))), ?_⟩
  have s0 : S K B H B H (L2.start ["_law_sets_here", "_law_boxes", "_law_news", "_law_box", "_law_one", "_law_number_here"] [v, .ref b]) [.val (setsD l), .fact (DkF kvs), .no, .no, .no, .no] := start_SS bh (.vl dv (.ft ⟨b, rfl, hb⟩ (DkF.keeps kvs) .nil))
  refine h_asg ?_
  refine (vl_lc (K := K) l setD (fun p => .tuple [.int p.1, .int (wr kvs p.2)]) (vi_list (ve_var (i := 0) rfl)) (by omega) fun p hp => ⟨_, _, fun i hi => hi, xg_tup (n := 2) (xgs_cons (is := [3]) xg_name (xgs_cons (is := [4]) xg_name xgs_nil)) rfl, vt_yes, ?_⟩).ve B H B H _ s0 _ fun v1 B1 H1 t1 d1 => ?_
  · exact ve_tup (va_cons (ve_var rfl) (va_cons (ve_callS (vsa_cons (ve_var rfl).vs (vsa_cons (vs_var rfl) vsa_nil)) ⟨p.2, kvs, m, rfl, (ho p hp).1, (ho p hp).2, ok, rfl⟩) va_nil)) (Nat.le_of_ble_eq_true rfl)
  have s1 : S K B1 H1 B1 H1 ((L2.start ["_law_sets_here", "_law_boxes", "_law_news", "_law_box", "_law_one", "_law_number_here"] [v, .ref b]).set 2 (some v1)) [.val (setsD l), .raw (.ref b), .val (.list (l.map fun p => .tuple [.int p.1, .int (wr kvs p.2)])), .no, .no, .no] :=
    ((start_SS (N := ["_law_sets_here", "_law_boxes", "_law_news", "_law_box", "_law_one", "_law_number_here"]) t1.bh (.vl (dp_same t1.b dv) (.rw_ (v := .ref b) .nil))).val 2 d1)
  show tFor _ _ _ _ _ _
  refine vi_list (K := K) (ds := l.map fun p => .tuple [.int p.1, .int (wr kvs p.2)]) (ve_var (i := 2) rfl) B1 H1 B1 H1 _ s1 _ fun J B3 H3 t3 wd => ?_
  obtain ⟨G, Y, wk, hG, hY⟩ := wd.ex
  have t123 : Tr B H B3 H3 := t1.trans t3
  rw [List.length_map] at wk
  refine for_it wk (fun i σ H' => ∃ B', Same B3 B' ∧ S K B' H' B' H' σ [.val (setsD l), .raw (.ref b), .val (.list (l.map fun p => .tuple [.int p.1, .int (wr kvs p.2)])), .no, .no, .no] ∧ B' b = none ∧ H' b = some (.dK (putAll kvs ((news kvs l).take i))) ∧ Keep b H H')
    ⟨B3, Same.refl B3, (s1.step t3).re rfl t3.bh, t123.out nb hb, t123.h _ _ hb, .of t123.h⟩ (fun i σ H' _ ⟨B', e, z, _⟩ => hG H' (e.trans z.bh)) ?_ ?_
  · rintro i x σ H4 H5 hi ⟨B', e, z, nb', hb', kp⟩ y
    have hp : l[i]? = some l[i] := List.getElem?_eq_getElem hi
    have hd : (l.map fun p => PyData.tuple [.int p.1, .int (wr kvs p.2)])[i]? = some (.tuple [.int l[i].1, .int (wr kvs l[i].2)]) := by
      rw [List.getElem?_map, hp]
      rfl
    obtain ⟨B5, r5, dx5⟩ := hY i x B' H4 H5 _ e z.bh hd y
    refine xg_tup (K := K) (xgs_cons (is := [3]) xg_name (xgs_cons (is := [5]) xg_name xgs_nil)) rfl B' H4 B5 H5 σ x (z.step r5) dx5 _ fun σ1 s1 _ => ?_
    obtain ⟨u5, e5, d5⟩ := s1.at_ 5 (.val (.int (wr kvs l[i].2))) rfl
    obtain ⟨u3, e3, d3⟩ := s1.at_ 3 (.val (.int l[i].1)) rfl
    cases d5; cases d3
    have hb5 := r5.h _ _ hb'
    have hl6 : (putAll kvs ((news kvs l).take i)).length ≤ 1000 := by
      have z2 := (putAll_ok ok (ps := (news kvs l).take i) (fun p hp => news_rng ok ho p (List.mem_of_mem_take hp))).len
      rw [List.length_take] at z2
      have : (news kvs l).length = l.length := by unfold news; rw [List.length_map]
      omega
    refine ⟨_, e5, _, s1.at_ 1 (.raw (.ref b)) rfl, _, e3, b, _, rfl, DPut.k (k := .inl l[i].1) hb5 (small1000 hl6), ?_⟩
    refine ⟨B5, e.trans r5.b, (s1.weak (δ' := [.val (setsD l), .raw (.ref b), .val (.list (l.map fun p => .tuple [.int p.1, .int (wr kvs p.2)])), .no, .no, .no]) ⟨.inr rfl, .inr rfl, .inr rfl, .inl rfl, .inr rfl, .inl rfl, trivial⟩).re rfl (same_upd r5.bh (r5.out nb' hb')), r5.out nb' hb', ?_, (kp.trans (.of r5.h)).trans .upd⟩
    have hn : (news kvs l)[i]? = some (l[i].1, wr kvs l[i].2) := by
      unfold news
      rw [List.getElem?_map, hp]
      rfl
    rw [putAll_take kvs (news kvs l) hn]
    exact upd_same
  · rintro σ H4 ⟨B', e, z, nb', hb', kp⟩
    refine q H4 kp ?_
    have : (news kvs l).length = l.length := by unfold news; rw [List.length_map]
    rw [hb', ← this, List.take_length]
    rfl
/-! ### a frame is made -/
def spCf (K : PySem.W.Frag) (CF : Addr) : Sp := fun vs H Q _ => ∃ (B : Hp) (f dx : Addr) (own : Str) (args : List Int) (v : V), vs = [.ref f, .str own, v] ∧ Same B H ∧ B f = none ∧ H f = some (.ins CF dx []) ∧ Dp K B v (.list (args.map .int)) ∧ args.length ≤ 100 ∧ (∀ x ∈ args, Rng x) ∧
  ∀ H' b, H b = none → Keep f H H' → H' f = some (.ins CF dx (ffs own 0 b)) → H' b = some (.dK (mkB args)) → Q .non H'
theorem sc_cf : FnScope ["self", "owner", "args", "box", "number"] ["self", "owner", "args"] (defScope s_cf_init) := ⟨rfl, rfl, rfl, by decide +kernel, rfl, by decide +kernel, by decide +kernel⟩
theorem ok_cf {f CF : Addr} {fd : FuncData} (F : Fun K "__init__" "CodeFrame.__init__" s_cf_init f fd) (T : Txt K mg aG aA) (C : CFt K CF) : FnOk P w K mg base CX0 1 f fd ["self", "owner", "args"] (spCf K CF) := by
  have nd := sc_cf.nd
  refine F.ok sc_cf (fun vs H Q E h => ?_) (fun cdv A outer s H vs Q E hr h => ?_)
  · obtain ⟨_, _, _, _, _, _, rfl, _⟩ := h
    rfl
  have hu := hu_of hr
  obtain ⟨B, f, dx, own, args, v, rfl, bh, nf, hf, dv, hl, hrng, q⟩ := h
  refine ⟨_, (pss_cons (ps_fld (pv 0) (pv 1) rfl)
    (pss_cons (ps_fld (pv 0) pe_int rfl)
    (pss_cons (ps_fld (pv 0) pe_dnewK rfl)
    (pss_one (ps_for PassesOwn.never rfl (pi_enum (by rfl) T.enumerate_ (pa_cons (pv 2) pa_nil)) (pg_tup rfl (pgs_cons (pg_name (i := 3) nd rfl (Or.inl rfl)) (pgs_cons (pg_name (i := 4) nd rfl (Or.inl rfl)) pgs_nil))) (pss_one (ps_dput hu (pe_fld (pv 0) rfl) (pv 3) (pv 4) rfl))))))), ?_⟩
  refine h_fld ?_
  refine ⟨_, rfl, _, rfl, f, CF, dx, _, rfl, hf, C.cl, C.nO, (by show 0 < 1000; decide), ?_⟩
  refine h_fld ?_
  refine ⟨_, rfl, f, CF, dx, _, rfl, upd_same, C.cl, C.nS, (by show 1 < 1000; decide), ?_⟩
  refine h_fld ?_
  intro b hb0
  have hbf : b ≠ f := fun e => by
    rw [e, upd_same] at hb0
    cases hb0
  have hb : H b = none := by
    rw [upd_ne hbf, upd_ne hbf] at hb0
    exact hb0
  refine ⟨_, rfl, f, CF, dx, _, rfl, Eq.trans (upd_ne hbf.symm) upd_same, C.cl, C.nB, (by show 2 < 1000; decide), ?_⟩
  rw [ffs_new]
  obtain ⟨H1, eH1⟩ : ∃ H1, H1 = upd (upd (upd (upd H f (.ins CF dx (putF "owner" (.str own) []))) f (.ins CF dx (putF "spot" (.int 0) (putF "owner" (.str own) [])))) b (.dK [])) f (.ins CF dx (ffs own 0 b)) := ⟨_, rfl⟩
  rw [← eH1]
  have k1 : Keep f H H1 := by
    rw [eH1]
    intro a o h n
    rw [upd_ne n, upd_ne (ne_of_none h hb), upd_ne n, upd_ne n]
    exact h
  have hf1 : H1 f = some (.ins CF dx (ffs own 0 b)) := by
    rw [eH1]
    exact upd_same
  have hb1 : H1 b = some (.dK []) := by
    rw [eH1, upd_ne hbf]
    exact upd_same
  have bh1 : Same B H1 := k1.base bh nf
  have s0 : S K B H1 B H1 (L2.start ["self", "owner", "args", "box", "number"] [.ref f, .str own, v]) [.raw (.ref f), .raw (.str own), .val (.list (args.map .int)), .no, .no] := start_SS bh1 (.rw_ (.rw_ (.vl dv .nil)))
  show tFor _ _ _ _ _ _
  refine vi_enum (K := K) (ds := args.map .int) (ve_var (i := 2) rfl) B H1 B H1 _ s0 _ fun J B3 H3 t3 wd => ?_
  obtain ⟨G, Y, wk, hG, hY⟩ := wd.ex
  have hlen : (enumD (args.map PyData.int)).length = args.length := by
    unfold enumD
    rw [zipD_len (by rw [upTo_len]), upTo_len, List.length_map]
  rw [hlen] at wk
  have nbB : B b = none := bh.free hb
  refine for_it wk (fun i σ H' => ∃ B', Same B3 B' ∧ S K B' H' B' H' σ [.raw (.ref f), .raw (.str own), .val (.list (args.map .int)), .no, .no] ∧ B' b = none ∧ H' f = some (.ins CF dx (ffs own 0 b)) ∧ H' b = some (.dK (putAll [] ((numbered args).take i))) ∧ Keep f H H')
    ⟨B3, Same.refl B3, (s0.step t3).re rfl t3.bh, t3.out nbB hb1, t3.h _ _ hf1, t3.h _ _ hb1, k1.trans (.of t3.h)⟩ (fun i σ H' _ ⟨B', e, z, _⟩ => hG H' (e.trans z.bh)) ?_ ?_
  · rintro i x σ H4 H5 hi ⟨B', e, z, nb', hf', hb', kp⟩ y
    have hp : args[i]? = some args[i] := List.getElem?_eq_getElem hi
    have hd : (enumD (args.map PyData.int))[i]? = some (.tuple [.int (i : Int), .int args[i]]) := by
      unfold enumD zipD upTo
      rw [List.getElem?_zipWith, List.getElem?_map, List.getElem?_map, hp, List.getElem?_range (by rw [List.length_map]; exact hi)]
      rfl
    obtain ⟨B5, r5, dx5⟩ := hY i x B' H4 H5 _ e z.bh hd y
    refine xg_tup (K := K) (xgs_cons (is := [3]) xg_name (xgs_cons (is := [4]) xg_name xgs_nil)) rfl B' H4 B5 H5 σ x (z.step r5) dx5 _ fun σ1 s1 _ => ?_
    obtain ⟨u4, e4, d4⟩ := s1.at_ 4 (.val (.int args[i])) rfl
    obtain ⟨u3, e3, d3⟩ := s1.at_ 3 (.val (.int (i : Int))) rfl
    cases d4; cases d3
    have hb5 := r5.h _ _ hb'
    have hf5 := r5.h _ _ hf'
    have hl6 : (putAll [] ((numbered args).take i)).length ≤ 1000 := by
      have z2 := (putAll_ok BOk.nil (ps := (numbered args).take i) (fun p hp => ?_)).len
      · rw [List.length_take, numbered_len] at z2
        omega
      · have hp := List.mem_of_mem_take hp
        unfold numbered at hp
        obtain ⟨q, hq, rfl⟩ := List.mem_map.mp hp
        obtain ⟨_, _, h3⟩ := List.mem_zipIdx (x := q.1) (i := q.2) (by cases q; exact hq)
        rw [h3]
        exact hrng _ (List.getElem_mem _)
    refine ⟨_, e4, _, s1.at_ 0 (.raw (.ref f)) rfl, f, CF, dx, _, _, rfl, hf5, C.cl, C.nB, ffs_boxes _ _ _, _, e3, b, _, rfl, DPut.k (k := .inl (i : Int)) hb5 (small1000 hl6), ?_⟩
    have nbf : f ≠ b := hbf.symm
    refine ⟨B5, e.trans r5.b, (s1.weak (δ' := [.raw (.ref f), .raw (.str own), .val (.list (args.map .int)), .no, .no]) ⟨.inr rfl, .inr rfl, .inr rfl, .inl rfl, .inl rfl, trivial⟩).re rfl (same_upd r5.bh (r5.out nb' hb')), r5.out nb' hb', by rw [upd_ne nbf]; exact hf5, ?_, ?_⟩
    · rw [mkB_step hp]
      exact upd_same
    · intro a o h n
      rw [upd_ne (ne_of_none h hb)]
      exact r5.h _ _ (kp a o h n)
  · rintro σ H4 ⟨B', e, z, nb', hf', hb', kp⟩
    refine q H4 b hb kp hf' ?_
    rw [hb', ← numbered_len, List.take_length]
    rfl
end
end K37
/-! The walker on code: how it is made. -/
namespace K37
open PySem L2
section
variable {P : Program} {w : World} {K : PySem.W.Frag} {mg : Str → Option Value} {base : Heap} {aG aA : Addr} {δ δ1 : List Slot} {ta tb te tx ty tk tv : TE}
/-! ### dicts that are filled by names -/
def DictD (K : PySem.W.Frag) (B : Hp) (d : Addr) (ps : List (Str × PyData)) : Prop := ∃ kv : Bx, B d = some (.dK kv) ∧ ∀ p ∈ ps, ∃ v, valV kv (.inr p.1) = some v ∧ Dp K B v p.2
def Fill (K : PySem.W.Frag) (B H : Hp) (d : Addr) (ps : List (Str × PyData)) : Prop := ∃ kv : Bx, H d = some (.dK kv) ∧ kv.length ≤ ps.length ∧ ∀ p ∈ ps, ∃ v, valV kv (.inr p.1) = some v ∧ Dp K B v p.2
theorem DictD.same {B B' : Hp} {d : Addr} {ps : List (Str × PyData)} (h : DictD K B d ps) (e : Same B B') : DictD K B' d ps := by
  obtain ⟨kv, h1, h2⟩ := h
  exact ⟨kv, e _ _ h1, fun p hp => let ⟨v, a, b⟩ := h2 p hp; ⟨v, a, dp_same e b⟩⟩
theorem Fill.put {B B' H H' : Hp} {d : Addr} {ps : List (Str × PyData)} {p : Str × PyData} {v : V} (h : Fill K B H d ps) (hn : p.1 ∉ ps.map (·.1)) (hl : ps.length ≤ 100) (e : Same B B') (e2 : Same H H') (dv : Dp K B' v p.2) :
    ∃ kv : Bx, H' d = some (.dK kv) ∧ kv.length ≤ 1000 ∧ Fill K B' (upd H' d (.dK (putK kv (.inr p.1) v))) d (ps ++ [p]) := by
  obtain ⟨kv, h1, h2, h3⟩ := h
  refine ⟨kv, e2 _ _ h1, by omega, _, upd_same, ?_, fun q hq => ?_⟩
  · rw [List.length_append, List.length_singleton]
    exact Nat.le_trans (putK_le _ _ _) (Nat.add_le_add_right h2 1)
  · rcases List.mem_append.mp hq with hq | hq
    · obtain ⟨u, hu, du⟩ := h3 q hq
      refine ⟨u, ?_, dp_same e du⟩
      rw [valV_put, if_neg (fun z => hn ?_)]
      · exact hu
      · rw [← Sum.inr.inj z]
        exact List.mem_map.mpr ⟨q, hq, rfl⟩
    · rw [List.mem_singleton.mp hq]
      exact ⟨v, by rw [valV_put, if_pos rfl], dv⟩
theorem Fill.still {B H : Hp} {d : Addr} {ps : List (Str × PyData)} (h : Fill K B H d ps) (bh : Same B H) (n : B d = none) : ∃ B', Same B B' ∧ Same B' H ∧ DictD K B' d ps ∧ ∀ a, B' a ≠ none → a = d ∨ B a ≠ none := by
  obtain ⟨kv, h1, h2, h3⟩ := h
  have e : Same B (upd B d (.dK kv)) := same_upd (Same.refl B) n
  refine ⟨upd B d (.dK kv), e, fun a o k => ?_, ⟨kv, upd_same, fun p hp => let ⟨v, a, b⟩ := h3 p hp; ⟨v, a, dp_same e b⟩⟩, fun a k => ?_⟩
  · by_cases q : a = d
    · subst q
      rw [upd_same] at k
      rw [h1]
      exact k
    · rw [upd_ne q] at k
      exact bh a o k
  · by_cases q : a = d
    · exact .inl q
    · rw [upd_ne q] at k
      exact .inr k
/-- for .. in ..: self.fld[..] = .. -/
theorem fill_loop {wi : TI} {g : TG} {fld : Str} {D : Ends} {σ : L2.St} {H B : Hp} {a C dx d : Addr} {fs : List (Str × V)} (ds : List PyData) (ps : List (Str × PyData)) (hwi : VI K wi δ ds) (hp : plainS δ = true) (h0 : δ[0]? = some (.raw (.ref a)))
    (hl : ps.length = ds.length) (hl2 : ps.length ≤ 100) (hnd : (ps.map (·.1)).Nodup)
    (hs : ∀ (i : Nat) (x : PyData) (p : Str × PyData), ds[i]? = some x → ps[i]? = some p → ∃ is δ1, XG K g is x δ δ1 ∧ VE K tv δ1 p.2 ∧ VE K tk δ1 (.str p.1) ∧ δ1[0]? = some (.raw (.ref a)) ∧ Weak δ1 δ)
    (ha : H a = some (.ins C dx fs)) (hf : fs.lookup fld = some (.ref d)) (hc : Cls K C) (hn : NoAttr K C fld) (hd : H d = some (.dK [])) (na : B a = none) (nd : B d = none) (s : S K B H B H σ δ)
    (q : ∀ σ' B' H', Same B B' → S K B' H' B' H' σ' δ → Keep d H H' → DictD K B' d ps → (∀ x, B x = none → H x ≠ none → x ≠ d → B' x = none) → D.nx σ' H') : tFor wi g (sDPut (tFld K (tVar 0) fld) tk tv) D σ H := by
  refine hwi B H B H σ s _ fun J B3 H3 t3 wd => ?_
  obtain ⟨G, Y, wk, hG, hY⟩ := wd.ex
  have nad : a ≠ d := ne_of ha hd (by intro z; cases z)
  refine for_it wk (fun i σ H' => ∃ B', Same B3 B' ∧ S K B' H' B' H' σ δ ∧ (∀ x, B x = none → H x ≠ none → B' x = none) ∧ Fill K B' H' d (ps.take i) ∧ Keep d H H')
    ⟨B3, Same.refl B3, (s.step t3).re hp t3.bh, fun x h1 h2 => ?_, ⟨[], t3.h _ _ hd, Nat.le_refl _, fun p hp => nomatch hp⟩, .of t3.h⟩ (fun i σ H' _ ⟨B', e, z, _⟩ => hG H' (e.trans z.bh)) ?_ ?_
  · cases e : H x with
    | none => exact absurd e h2
    | some o => exact t3.out h1 e
  · rintro i x σ H4 H5 hi ⟨B', e, z, no, fl, kp⟩ y
    have e1 : ds[i]? = some ds[i] := List.getElem?_eq_getElem hi
    have hi2 : i < ps.length := by omega
    have e2 : ps[i]? = some ps[i] := List.getElem?_eq_getElem hi2
    obtain ⟨B5, r5, dx5⟩ := hY i x B' H4 H5 _ e z.bh e1 y
    obtain ⟨is, δ1, hg, hv, hk, hr, wk⟩ := hs i _ _ e1 e2
    refine hg B' H4 B5 H5 σ x (z.step r5) dx5 _ fun σ1 s1 _ => ?_
    refine hv B' H4 B5 H5 σ1 s1 _ fun v B6 H6 t6 dv => ?_
    have s6 := s1.step t6
    refine ⟨_, s6.at_ 0 (.raw (.ref a)) hr, a, C, dx, fs, _, rfl, t6.h _ _ (r5.h _ _ (kp _ _ ha nad)), hc, hn, hf, ?_⟩
    refine hk B' H4 B6 H6 σ1 s6 _ fun kk B7 H7 t7 dk => ?_
    cases dk
    have t57 : Tr B' H4 B7 H7 := (r5.trans t6).trans t7
    have hnot : ps[i].1 ∉ (ps.take i).map (·.1) := fun hm => by
      obtain ⟨r, hr1, hr2⟩ := List.mem_map.mp hm
      obtain ⟨j, hj, ej⟩ := List.mem_take_iff_getElem.mp hr1
      have hj2 : j < ps.length := by omega
      have z1 : (ps.map (·.1))[j]'(by rw [List.length_map]; omega) = (ps.map (·.1))[i]'(by rw [List.length_map]; omega) := by
        rw [List.getElem_map, List.getElem_map, ej, hr2]
      have := (List.getElem_inj hnd).mp z1
      omega
    obtain ⟨kv, h1, h2, h3⟩ := fl.put (p := ps[i]) hnot (by rw [List.length_take]; omega) t57.b t57.h (dp_same t7.b dv)
    have ndd : B' d = none := no d nd (by rw [hd]; exact fun z => nomatch z)
    obtain ⟨kv0, hk0, _⟩ := fl
    refine ⟨d, _, rfl, DPut.k (k := .inr ps[i].1) h1 (small1000 h2), ?_⟩
    refine ⟨B7, e.trans t57.b, ((s6.step t7).weak wk).re hp (same_upd t57.bh (t57.out ndd hk0)), fun x h1 h2 => ?_, ?_, (kp.trans (.of t57.h)).trans .upd⟩
    · have h9 := no x h1 h2
      by_cases q : x = d
      · subst q
        exact t57.out h9 hk0
      · cases e : H x with
        | none => exact absurd e h2
        | some o => exact t57.out h9 (kp x o e q)
    · rw [List.take_add_one, e2]
      exact h3
  · rintro σ H4 ⟨B', e, z, no, fl, kp⟩
    rw [← hl, List.take_length] at fl
    have ndd : B' d = none := no d nd (by rw [hd]; exact fun z => nomatch z)
    obtain ⟨B'', k1, k2, k3, k4⟩ := fl.still z.bh ndd
    refine q σ B'' H4 ((t3.b.trans e).trans k1) ((S.re (B := B'') ⟨.refl k2, z.len, fun i x h => ?_⟩ hp k2)) kp k3 fun x h1 h2 h3 => ?_
    · have y := z.at_ i x h
      obtain ⟨p1, p2⟩ := plainS_at hp h
      cases x with
      | no => trivial
      | raw v => exact y
      | val d =>
        obtain ⟨v, e1, dv⟩ := y
        exact ⟨v, e1, dp_same k1 dv⟩
      | ml ds => exact absurd rfl (p1 ds)
      | fact φ => exact absurd rfl (p2 φ)
    · cases e : B'' x with
      | none => rfl
      | some o =>
        rcases k4 x (by rw [e]; exact fun z => nomatch z) with z1 | z1
        · exact absurd z1 h3
        · exact absurd (no x h1 h2) z1
theorem fill_seq {wi : TI} {g : TG} {fld : Str} {tz : TS} {D : Ends} {σ : L2.St} {H B : Hp} {a C dx d : Addr} {fs : List (Str × V)} (ds : List PyData) (ps : List (Str × PyData)) (hwi : VI K wi δ ds) (hp : plainS δ = true) (h0 : δ[0]? = some (.raw (.ref a)))
    (hl : ps.length = ds.length) (hl2 : ps.length ≤ 100) (hnd : (ps.map (·.1)).Nodup)
    (hs : ∀ (i : Nat) (x : PyData) (p : Str × PyData), ds[i]? = some x → ps[i]? = some p → ∃ is δ1, XG K g is x δ δ1 ∧ VE K tv δ1 p.2 ∧ VE K tk δ1 (.str p.1) ∧ δ1[0]? = some (.raw (.ref a)) ∧ Weak δ1 δ)
    (ha : H a = some (.ins C dx fs)) (hf : fs.lookup fld = some (.ref d)) (hc : Cls K C) (hn : NoAttr K C fld) (hd : H d = some (.dK [])) (na : B a = none) (nd : B d = none) (s : S K B H B H σ δ)
    (q : ∀ σ' B' H', Same B B' → S K B' H' B' H' σ' δ → Keep d H H' → DictD K B' d ps → (∀ x, B x = none → H x ≠ none → x ≠ d → B' x = none) → tz D σ' H') : tSeq (tFor wi g (sDPut (tFld K (tVar 0) fld) tk tv)) tz D σ H :=
  fill_loop (D := { D with nx := tz D }) ds ps hwi hp h0 hl hl2 hnd hs ha hf hc hn hd na nd s q
/-! ### the fields of a walker -/
structure WAd where
  w : Addr
  sends : Addr
  store : Addr
  words : Addr
  spots : Addr
  marks : Addr
  stack : Addr
def wf0 (a1 a2 : Addr) : List (Str × V) := [("sends", .ref a1), ("store", .ref a2), ("made", .int 0), ("result", .non)]
def wfs (a : WAd) (r : V) : List (Str × V) := [("sends", .ref a.sends), ("store", .ref a.store), ("made", .int 0), ("result", r), ("words", .ref a.words), ("spots", .ref a.spots), ("marks", .ref a.marks), ("stack", .ref a.stack)]
theorem wf0_new (a1 a2 : Addr) : putF "result" .non (putF "made" (.int 0) (putF "store" (.ref a2) (putF "sends" (.ref a1) []))) = wf0 a1 a2 := by kernel_rfl
structure CWt (K : PySem.W.Frag) (CW : Addr) : Prop where
  cl : Cls K CW
  n1 : NoAttr K CW "sends"
  n2 : NoAttr K CW "store"
  n3 : NoAttr K CW "made"
  n4 : NoAttr K CW "result"
  n5 : NoAttr K CW "words"
  n6 : NoAttr K CW "spots"
  n7 : NoAttr K CW "marks"
  n8 : NoAttr K CW "stack"
structure Wt (mg : Str → Option Value) (WK : Addr) : Prop where
  g_Walker : ∃ u, mg "Walker" = some u ∧ RelV (.ref WK) u
def spWk (CW : Addr) : Sp := fun vs H Q _ => ∃ (a dx : Addr), vs = [.ref a] ∧ H a = some (.ins CW dx []) ∧ ∀ H' a1 a2, Keep a H H' → H' a = some (.ins CW dx (wf0 a1 a2)) → Q .non H'
theorem sc_wk : FnScope ["self"] ["self"] (defScope s_wk_init) := ⟨rfl, rfl, rfl, by decide +kernel, rfl, by decide +kernel, by decide +kernel⟩
theorem ok_wk {f CW : Addr} {fd : FuncData} (F : Fun K "__init__" "Walker.__init__" s_wk_init f fd) (T : Txt K mg aG aA) (C : CWt K CW) : FnOk P w K mg base CX0 1 f fd ["self"] (spWk CW) := by
  have nd := sc_wk.nd
  refine F.ok sc_wk (fun vs H Q E h => ?_) (fun cdv A outer s H vs Q E hr h => ?_)
  · obtain ⟨_, _, rfl, _⟩ := h
    rfl
  obtain ⟨a, dx, rfl, ha, q⟩ := h
  refine ⟨_, (pss_cons (ps_fld (pv 0) (pe_lst pa_nil) rfl)
    (pss_cons (ps_fld (pv 0) pe_dnewK rfl)
    (pss_cons (ps_fld (pv 0) pe_int rfl)
    (pss_one (ps_fld (pv 0) pe_non rfl))))), ?_⟩
  refine h_fld ?_
  refine ⟨Nat.zero_le _, fun l hl => ?_⟩
  have hla : a ≠ l := ne_of_none ha hl
  refine ⟨_, rfl, a, CW, dx, _, rfl, (by rw [upd_ne hla]; exact ha), C.cl, C.n1, (by show 0 < 1000; decide), ?_⟩
  refine h_fld ?_
  intro d hd
  have hda : a ≠ d := fun e => by
    rw [← e, upd_same] at hd
    cases hd
  refine ⟨_, rfl, a, CW, dx, _, rfl, Eq.trans (upd_ne hda) upd_same, C.cl, C.n2, (by show 1 < 1000; decide), ?_⟩
  refine h_fld ?_
  refine ⟨_, rfl, a, CW, dx, _, rfl, upd_same, C.cl, C.n3, (by show 2 < 1000; decide), ?_⟩
  refine h_fld1 ?_
  refine ⟨_, rfl, a, CW, dx, _, rfl, upd_same, C.cl, C.n4, (by show 3 < 1000; decide), ?_⟩
  refine q _ l d (fun b o h n => ?_) (by rw [wf0_new]; exact upd_same)
  have hbl : b ≠ l := ne_of_none h hl
  have hbd : b ≠ d := fun e => by
    rw [← e, upd_ne n, upd_ne hbl, h] at hd
    cases hd
  rw [upd_ne n, upd_ne n, upd_ne n, upd_ne hbd, upd_ne n, upd_ne hbl]
  exact h
end
end K37
/-! The walker on code: its __init__. -/
namespace K37
open PySem L2
section
variable {P : Program} {w : World} {K : PySem.W.Frag} {mg : Str → Option Value} {base : Heap} {aG aA : Addr} {δ δ1 : List Slot} {ta tb te tx ty tk tv : TE}
structure Fn where
  own : Str
  names : List Str
  many : Nat
  spots : List (Sets × Act)
  rows : List Int
structure Fn.Ok (f : Fn) : Prop where
  nd : f.names.Nodup
  nl : f.names.length = 8
  many : f.many ≤ 7
  sl : f.spots.length ≤ 100
  rl : f.rows.length ≤ 100
  sets : ∀ p ∈ f.spots, p.1.length ≤ 10
def Fn.progD (f : Fn) : PyData := funD f.own f.names f.many
def Fn.codeD (f : Fn) : PyData := .tuple [.str f.own, .list (f.spots.map spotD)]
def Fn.tabD (bs : List Int) (f : Fn) : PyData := .tuple [.str f.own, .list (f.rows.map (markD f.own bs))]
def fnW (f : Fn) : Str × PyData := (f.own, .list (f.names.map .str))
def fnS (f : Fn) : Str × PyData := (f.own, .list (f.spots.map spotD))
def fnM (bs : List Int) (f : Fn) : Str × PyData := (f.own, .list (f.rows.map (markD f.own bs)))
structure Stat (K : PySem.W.Frag) (B : Hp) (a : WAd) (fns : List Fn) (bs : List Int) : Prop where
  words : DictD K B a.words (fns.map fnW)
  spots : DictD K B a.spots (fns.map fnS)
  marks : DictD K B a.marks (fns.map (fnM bs))
theorem Stat.same {B B' : Hp} {a : WAd} {fns : List Fn} {bs : List Int} (h : Stat K B a fns bs) (e : Same B B') : Stat K B' a fns bs := ⟨h.words.same e, h.spots.same e, h.marks.same e⟩
def spCw (K : PySem.W.Frag) (CF CW : Addr) : Sp := fun vs H Q _ => ∃ (B : Hp) (a dx : Addr) (f0 f1 : Fn) (bs args : List Int) (vp vc vt va : V), vs = [.ref a, vp, vc, vt, va] ∧ Same B H ∧ B a = none ∧ H a = some (.ins CW dx []) ∧
  Dp K B vp (.list ([f0, f1].map Fn.progD)) ∧ Dp K B vc (.list ([f0, f1].map Fn.codeD)) ∧ Dp K B vt (.list ([f0, f1].map (Fn.tabD bs))) ∧ Dp K B va (.list (args.map .int)) ∧ f0.Ok ∧ f1.Ok ∧ f0.own ≠ f1.own ∧ bs.length ≤ 100 ∧ args.length ≤ 100 ∧ (∀ x ∈ args, Rng x) ∧
  ∀ (A : WAd) (f b dxf : Addr) (B' H' : Hp), A.w = a → Same B B' → Same B' H' → Keep a H H' → H' a = some (.ins CW dx (wfs A .non)) → H' A.stack = some (.lst [.ref f]) → H' f = some (.ins CF dxf (ffs f1.own 0 b)) → H' b = some (.dK (mkB args)) → Stat K B' A [f0, f1] bs →
    B' a = none → B' A.stack = none → B' f = none → B' b = none → Q .non H'
def wf1 (a1 a2 d : Addr) : List (Str × V) := [("sends", .ref a1), ("store", .ref a2), ("made", .int 0), ("result", .non), ("words", .ref d)]
def wf2 (a1 a2 d e : Addr) : List (Str × V) := [("sends", .ref a1), ("store", .ref a2), ("made", .int 0), ("result", .non), ("words", .ref d), ("spots", .ref e)]
def wf3 (a1 a2 d e g : Addr) : List (Str × V) := [("sends", .ref a1), ("store", .ref a2), ("made", .int 0), ("result", .non), ("words", .ref d), ("spots", .ref e), ("marks", .ref g)]
theorem put_words (a1 a2 d : Addr) : putF "words" (.ref d) (wf0 a1 a2) = wf1 a1 a2 d := by kernel_rfl
theorem put_spots (a1 a2 d e : Addr) : putF "spots" (.ref e) (wf1 a1 a2 d) = wf2 a1 a2 d e := by kernel_rfl
theorem put_marks (a1 a2 d e g : Addr) : putF "marks" (.ref g) (wf2 a1 a2 d e) = wf3 a1 a2 d e g := by kernel_rfl
theorem put_stack (a a1 a2 d e g l : Addr) : putF "stack" (.ref l) (wf3 a1 a2 d e g) = wfs ⟨a, a1, a2, d, e, g, l⟩ .non := by kernel_rfl
theorem get_words (a1 a2 d : Addr) : (wf1 a1 a2 d).lookup ("words" : Str) = some (.ref d) := by kernel_rfl
theorem get_spots (a1 a2 d e : Addr) : (wf2 a1 a2 d e).lookup ("spots" : Str) = some (.ref e) := by kernel_rfl
theorem get_marks (a1 a2 d e g : Addr) : (wf3 a1 a2 d e g).lookup ("marks" : Str) = some (.ref g) := by kernel_rfl
/-- a new dict, put into a field -/
theorem new_field {H : Hp} {a C dx d : Addr} {fs fs' : List (Str × V)} (ha : H a = some (.ins C dx fs)) (hd : H d = none) : a ≠ d ∧ (upd H d (.dK [])) a = some (.ins C dx fs) ∧ Keep a H (upd (upd H d (.dK [])) a (.ins C dx fs')) ∧ (upd (upd H d (.dK [])) a (.ins C dx fs')) d = some (.dK []) := by
  have h := ne_of_none ha hd
  refine ⟨h, by rw [upd_ne h]; exact ha, fun b o e n => by rw [upd_ne n, upd_ne (ne_of_none e hd)]; exact e, by rw [upd_ne h.symm, upd_same]⟩
theorem sc_cw : FnScope ["self", "program", "code", "table", "args", "function", "name", "spots", "sets", "act", "marks", "chain", "view", "views"] ["self", "program", "code", "table", "args"] (defScope s_cw_init) := ⟨rfl, rfl, rfl, by decide +kernel, rfl, by decide +kernel, by decide +kernel⟩
theorem ok_cw {f CF CW WK : Addr} {fd : FuncData} (F : Fun K "__init__" "CodeWalker.__init__" s_cw_init f fd) (T : Txt K mg aG aA) (WT : Wt mg WK) (CFp : CFt K CF) (C : CWt K CW) (c_init : ClsFn P w K mg base 1 WK "__init__" (spWk CW)) (c_names_of : C8.Cal P w K mg base 3 "names_of" (spD K R_names) [])
    (k_CodeFrame : C8.Mak P w K mg base 1 "CodeFrame" CF (spCf K CF) []) : FnOk P w K mg base CX0 4 f fd ["self", "program", "code", "table", "args"] (spCw K CF CW) := by
  have nd := sc_cw.nd
  refine F.ok sc_cw (fun vs H Q E h => ?_) (fun cdv A outer s H vs Q E hr h => ?_)
  · obtain ⟨_, _, _, _, _, _, _, _, _, _, _, rfl, _⟩ := h
    rfl
  have hu := hu_of hr
  obtain ⟨B, a, dx, f0, f1, bs, args, vp, vc, vt, va, rfl, bh, nBa, ha, dp, dc, dt, da, o0, o1, hne, hbs, hal, hrng, q⟩ := h
  refine ⟨_, (pss_cons (ps_expr (pe_cfn c_init hr (by omega) (C8.pe_gc (by rfl) WT.g_Walker) (pa_cons (pv 0) pa_nil)))
    (pss_cons (ps_fld (pv 0) pe_dnewK rfl)
    (pss_cons (ps_for PassesOwn.never rfl (pi_list (pv 1)) (pg_name (i := 5) nd rfl (Or.inl rfl)) (pss_one (ps_dput hu (pe_fld (pv 0) rfl) (pe_ix ix_tup (pv 5) pe_int (fun _ _ => rfl)) (C8.pe_c c_names_of hr (by omega) (by rfl) (pa_cons (pv 5) pa_nil)) rfl)))
    (pss_cons (ps_fld (pv 0) pe_dnewK rfl)
    (pss_cons (ps_for PassesOwn.never rfl (pi_list (pv 2)) (pg_tup rfl (pgs_cons (pg_name (i := 6) nd rfl (Or.inl rfl)) (pgs_cons (pg_name (i := 7) nd rfl (Or.inl rfl)) pgs_nil))) (pss_one (ps_dput hu (pe_fld (pv 0) rfl) (pv 6) (pe_lc (own := [("sets", 8), ("act", 9)]) (g := (gTup K 2 (gCons (gName 8) (gCons (gName 9) gNil)))) (tt := tYes) rfl nd (pi_list (pv 7)) (blkOk_by (own := [("sets", 8), ("act", 9)]) (N := ["self", "program", "code", "table", "args", "function", "name", "spots", "sets", "act", "marks", "chain", "view", "views"]) (by kernel_rfl)) (fun _ _ _ _ _ => (pg_tup rfl (pgs_cons (pg_name (i := 8) nd rfl (Or.inl rfl)) (pgs_cons (pg_name (i := 9) nd rfl (Or.inl rfl)) pgs_nil)))) (fun _ _ _ _ _ => pts_nil) (fun _ _ _ _ _ => (pe_tup (pa_cons (pe_callTy (call_list_ofK (K := K) rfl) (by rfl) T.list_ (by decide +kernel) (pa_cons (pv 8) pa_nil)) (pa_cons (pv 9) pa_nil))))) rfl)))
    (pss_cons (ps_fld (pv 0) pe_dnewK rfl)
    (pss_cons (ps_for PassesOwn.never rfl (pi_list (pv 3)) (pg_tup rfl (pgs_cons (pg_name (i := 6) nd rfl (Or.inl rfl)) (pgs_cons (pg_name (i := 10) nd rfl (Or.inl rfl)) pgs_nil))) (pss_one (ps_dput hu (pe_fld (pv 0) rfl) (pv 6) (pe_lc (own := [("chain", 11), ("views", 13)]) (g := (gTup K 2 (gCons (gName 11) (gCons (gName 13) gNil)))) (tt := tYes) rfl nd (pi_list (pv 10)) (blkOk_by (own := [("chain", 11), ("views", 13)]) (N := ["self", "program", "code", "table", "args", "function", "name", "spots", "sets", "act", "marks", "chain", "view", "views"]) (by kernel_rfl)) (fun _ _ _ _ _ => (pg_tup rfl (pgs_cons (pg_name (i := 11) nd rfl (Or.inl rfl)) (pgs_cons (pg_name (i := 13) nd rfl (Or.inl rfl)) pgs_nil)))) (fun _ _ _ _ _ => pts_nil) (fun _ _ _ _ _ => (pe_tup (pa_cons (pv 11) (pa_cons (pe_lc (own := [("view", 12)]) (g := (gName 12)) (tt := tYes) rfl nd (pi_listK (K := K) rfl (pv 13)) (blkOk_by (own := [("view", 12)]) (N := ["self", "program", "code", "table", "args", "function", "name", "spots", "sets", "act", "marks", "chain", "view", "views"]) (by kernel_rfl)) (fun _ _ _ _ _ => (pg_name (i := 12) nd rfl (Or.inl rfl))) (fun _ _ _ _ _ => pts_nil) (fun _ _ _ _ _ => (pe_callTy (call_list_ofK (K := K) rfl) (by rfl) T.list_ (by decide +kernel) (pa_cons (pv 12) pa_nil)))) pa_nil))))) rfl)))
    (pss_one (ps_fld (pv 0) (pe_lst (pa_cons (C8.pe_mk k_CodeFrame hr (by omega) (by rfl) (pa_cons (pe_ix ix_tup (pe_ix ix_list (pv 1) (pe_un un_neg pe_int) (fun _ _ => rfl)) pe_int (fun _ _ => rfl)) (pa_cons (pv 4) pa_nil))) pa_nil)) rfl))))))))), ?_⟩
  have s0 : S K B H B H (L2.start ["self", "program", "code", "table", "args", "function", "name", "spots", "sets", "act", "marks", "chain", "view", "views"] [.ref a, vp, vc, vt, va]) [.raw (.ref a), .val (.list ([f0, f1].map Fn.progD)), .val (.list ([f0, f1].map Fn.codeD)), .val (.list ([f0, f1].map (Fn.tabD bs))), .val (.list (args.map .int)), .no, .no, .no, .no, .no, .no, .no, .no, .no] :=
    start_SS bh (.rw_ (.vl dp (.vl dc (.vl dt (.vl da .nil)))))
  generalize L2.start ["self", "program", "code", "table", "args", "function", "name", "spots", "sets", "act", "marks", "chain", "view", "views"] [.ref a, vp, vc, vt, va] = σ0 at s0 ⊢
  have hnd2 : ∀ g : Fn → Str × PyData, (∀ f, (g f).1 = f.own) → (([f0, f1].map g).map (·.1)).Nodup := fun g hg => by
    show ([(g f0).1, (g f1).1] : List Str).Nodup
    rw [hg, hg]
    exact List.nodup_cons.mpr ⟨by simpa using hne, by simp⟩
  refine h_drop ?_
  refine ⟨rfl, _, s0.at_ 0 (.raw (.ref a)) rfl, a, dx, rfl, ha, fun H1 a1 a2 k1 ha1 => ?_⟩
  have s1 := s0.re rfl (k1.base bh nBa)
  refine h_fld ?_
  intro dw hdw
  obtain ⟨n1, g1, g2, g3⟩ := new_field (fs' := wf1 a1 a2 dw) ha1 hdw
  refine ⟨_, s1.at_ 0 (.raw (.ref a)) rfl, a, CW, dx, _, rfl, g1, C.cl, C.n5, (by show 4 < 1000; decide), ?_⟩
  rw [put_words]
  have hBw : B dw = none := s1.bh.free hdw
  have s2 := s1.re rfl (g2.base s1.bh nBa)
  have k2 := k1.trans g2
  have ha2 : (upd (upd H1 dw (.dK [])) a (.ins CW dx (wf1 a1 a2 dw))) a = some (.ins CW dx (wf1 a1 a2 dw)) := upd_same
  generalize upd (upd H1 dw (.dK [])) a (.ins CW dx (wf1 a1 a2 dw)) = H2 at s2 g2 g3 k2 ha2 ⊢
  refine fill_seq (K := K) ([f0, f1].map Fn.progD) ([f0, f1].map fnW) (vi_list (ve_var (i := 1) rfl)) rfl rfl rfl (by show 2 ≤ 100; decide) (hnd2 fnW fun _ => rfl) (fun i x p hx hp => ?_) ha2 (get_words _ _ _) C.cl C.n5 g3 nBa hBw s2 fun σ3 B3 H3 e3 s3 k3 d3 no3 => ?_
  · have hh : ∃ f : Fn, f.Ok ∧ x = f.progD ∧ p = fnW f := by
      match i, hx, hp with
      | 0, hx, hp => cases hx; cases hp; exact ⟨f0, o0, rfl, rfl⟩
      | 1, hx, hp => cases hx; cases hp; exact ⟨f1, o1, rfl, rfl⟩
    obtain ⟨f, of, rfl, rfl⟩ := hh
    exact ⟨_, _, xg_name, ve_call (va_cons (ve_var rfl) va_nil) ⟨f.own, f.names, f.many, rfl, of.nd, of.nl, of.many, rfl⟩, ve_op (ve_var rfl) ve_int (rd_ixT (ds := [.str f.own, .bool false, .tuple ((f.names.take f.many).map .str), .tuple (rowsD f.names f.many)]) rfl), rfl,
      ⟨.inr rfl, .inr rfl, .inr rfl, .inr rfl, .inr rfl, .inl rfl, .inr rfl, .inr rfl, .inr rfl, .inr rfl, .inr rfl, .inr rfl, .inr rfl, .inr rfl, trivial⟩⟩
  have nBa3 : B3 a = none := no3 a nBa (by rw [ha2]; exact fun z => nomatch z) (ne_of ha2 g3 (by intro z; cases z))
  have ha3 : H3 a = some (.ins CW dx (wf1 a1 a2 dw)) := k3 _ _ ha2 (ne_of ha2 g3 (by intro z; cases z))
  have kk3 : Keep a H H3 := fun b o h n => by
    have z := k2 b o h n
    by_cases q : b = dw
    · subst q
      have := k1 b o h n
      rw [hdw] at this
      cases this
    · exact k3 b o z q
  refine h_fld ?_
  intro ds hds
  obtain ⟨n1, g1, g2, g3⟩ := new_field (fs' := wf2 a1 a2 dw ds) ha3 hds
  refine ⟨_, s3.at_ 0 (.raw (.ref a)) rfl, a, CW, dx, _, rfl, g1, C.cl, C.n6, (by show 5 < 1000; decide), ?_⟩
  rw [put_spots]
  have hBs : B3 ds = none := s3.bh.free hds
  have s4 := s3.re rfl (g2.base s3.bh nBa3)
  have k4 := kk3.trans g2
  have ha4 : (upd (upd H3 ds (.dK [])) a (.ins CW dx (wf2 a1 a2 dw ds))) a = some (.ins CW dx (wf2 a1 a2 dw ds)) := upd_same
  generalize upd (upd H3 ds (.dK [])) a (.ins CW dx (wf2 a1 a2 dw ds)) = H4 at s4 g2 g3 k4 ha4 ⊢
  refine fill_seq (K := K) ([f0, f1].map Fn.codeD) ([f0, f1].map fnS) (vi_list (ve_var (i := 2) rfl)) rfl rfl rfl (by show 2 ≤ 100; decide) (hnd2 fnS fun _ => rfl) (fun i x p hx hp => ?_) ha4 (get_spots _ _ _ _) C.cl C.n6 g3 nBa3 hBs s4 fun σ5 B5 H5 e5 s5 k5 d5 no5 => ?_
  · have hh : ∃ f : Fn, f.Ok ∧ x = f.codeD ∧ p = fnS f := by
      match i, hx, hp with
      | 0, hx, hp => cases hx; cases hp; exact ⟨f0, o0, rfl, rfl⟩
      | 1, hx, hp => cases hx; cases hp; exact ⟨f1, o1, rfl, rfl⟩
    obtain ⟨f, of, rfl, rfl⟩ := hh
    refine ⟨_, _, xg_tup (ds := [.str f.own, .list (f.spots.map spotD)]) (xgs_cons (is := [6]) xg_name (xgs_cons (is := [7]) xg_name xgs_nil)) rfl, (vl_lc f.spots spotD spotD (vi_list (ve_var rfl)) (Nat.le_trans of.sl (by decide)) fun p hp => ⟨_, _, fun i hi => hi, xg_tup (n := 2) (ds := [setsD p.1, actD p.2]) (xgs_cons (is := [8]) xg_name (xgs_cons (is := [9]) xg_name xgs_nil)) rfl, vt_yes, ?_⟩).ve, ve_var rfl, rfl,
      ⟨.inr rfl, .inr rfl, .inr rfl, .inr rfl, .inr rfl, .inr rfl, .inl rfl, .inl rfl, .inr rfl, .inr rfl, .inr rfl, .inr rfl, .inr rfl, .inr rfl, trivial⟩⟩
    exact ve_tup (va_cons (vl_cb (va_cons (ve_var (d := .list (p.1.map setD)) rfl) va_nil) (rcl_list (by rw [List.length_map]; exact Nat.le_trans (of.sets p hp) (by decide)))).ve (va_cons (ve_var rfl) va_nil)) (Nat.le_of_ble_eq_true rfl)
  have nBa5 : B5 a = none := no5 a nBa3 (by rw [ha4]; exact fun z => nomatch z) (ne_of ha4 g3 (by intro z; cases z))
  have ha5 : H5 a = some (.ins CW dx (wf2 a1 a2 dw ds)) := k5 _ _ ha4 (ne_of ha4 g3 (by intro z; cases z))
  have kk5 : Keep a H H5 := fun b o h n => by
    have z := k4 b o h n
    by_cases q : b = ds
    · subst q
      have := kk3 b o h n
      rw [hds] at this
      cases this
    · exact k5 b o z q
  refine h_fld ?_
  intro dm hdm
  obtain ⟨n1, g1, g2, g3⟩ := new_field (fs' := wf3 a1 a2 dw ds dm) ha5 hdm
  refine ⟨_, s5.at_ 0 (.raw (.ref a)) rfl, a, CW, dx, _, rfl, g1, C.cl, C.n7, (by show 6 < 1000; decide), ?_⟩
  rw [put_marks]
  have hBm : B5 dm = none := s5.bh.free hdm
  have s6 := s5.re rfl (g2.base s5.bh nBa5)
  have k6 := kk5.trans g2
  have ha6 : (upd (upd H5 dm (.dK [])) a (.ins CW dx (wf3 a1 a2 dw ds dm))) a = some (.ins CW dx (wf3 a1 a2 dw ds dm)) := upd_same
  generalize upd (upd H5 dm (.dK [])) a (.ins CW dx (wf3 a1 a2 dw ds dm)) = H6 at s6 g2 g3 k6 ha6 ⊢
  refine fill_seq (K := K) ([f0, f1].map (Fn.tabD bs)) ([f0, f1].map (fnM bs)) (vi_list (ve_var (i := 3) rfl)) rfl rfl rfl (by show 2 ≤ 100; decide) (hnd2 (fnM bs) fun _ => rfl) (fun i x p hx hp => ?_) ha6 (get_marks _ _ _ _ _) C.cl C.n7 g3 nBa5 hBm s6 fun σ7 B7 H7 e7 s7 k7 d7 no7 => ?_
  · have hh : ∃ f : Fn, f.Ok ∧ x = Fn.tabD bs f ∧ p = fnM bs f := by
      match i, hx, hp with
      | 0, hx, hp => cases hx; cases hp; exact ⟨f0, o0, rfl, rfl⟩
      | 1, hx, hp => cases hx; cases hp; exact ⟨f1, o1, rfl, rfl⟩
    obtain ⟨f, of, rfl, rfl⟩ := hh
    refine ⟨_, _, xg_tup (ds := [.str f.own, .list (f.rows.map (markD f.own bs))]) (xgs_cons (is := [6]) xg_name (xgs_cons (is := [10]) xg_name xgs_nil)) rfl, (vl_lc f.rows (markD f.own bs) (markD f.own bs) (vi_list (ve_var rfl)) (Nat.le_trans of.rl (by decide)) fun r hp => ⟨_, _, fun i hi => hi, xg_tup (n := 2) (ds := [.tuple [chainD f.own r], .list [.list (bs.map boxD)]]) (xgs_cons (is := [11]) xg_name (xgs_cons (is := [13]) xg_name xgs_nil)) rfl, vt_yes, ?_⟩).ve, ve_var rfl, rfl,
      ⟨.inr rfl, .inr rfl, .inr rfl, .inr rfl, .inr rfl, .inr rfl, .inl rfl, .inr rfl, .inr rfl, .inr rfl, .inl rfl, .inr rfl, .inr rfl, .inr rfl, trivial⟩⟩
    exact ve_tup (va_cons (ve_var rfl) (va_cons (vl_lc [bs] (fun b => PyData.list (b.map boxD)) (fun b => PyData.list (b.map boxD)) (vi_list (ve_var rfl)) (by show 1 ≤ 1000; decide) fun b hb => ⟨_, _, fun i hi => hi, xg_name, vt_yes, (vl_cb (va_cons (ve_var (d := .list (b.map boxD)) rfl) va_nil) (rcl_list (by
      rw [List.mem_singleton.mp hb, List.length_map]; omega))).ve⟩).ve va_nil)) (Nat.le_of_ble_eq_true rfl)
  have nBa7 : B7 a = none := no7 a nBa5 (by rw [ha6]; exact fun z => nomatch z) (ne_of ha6 g3 (by intro z; cases z))
  have ha7 : H7 a = some (.ins CW dx (wf3 a1 a2 dw ds dm)) := k7 _ _ ha6 (ne_of ha6 g3 (by intro z; cases z))
  have kk7 : Keep a H H7 := fun b o h n => by
    have z := k6 b o h n
    by_cases q : b = dm
    · subst q
      have := kk5 b o h n
      rw [hdm] at this
      cases this
    · exact k7 b o z q
  refine h_fld1 ?_
  refine h_lst1 ?_
  refine h_make ?_
  refine va_cons (ve_op (ve_op (ve_var (i := 1) rfl) (ve_neg ve_int) (rd_ixL (i := -1) (ds := [f0.progD, f1.progD]) (d := f1.progD) rfl)) ve_int (rd_ixT (i := 0) (ds := [.str f1.own, .bool false, .tuple ((f1.names.take f1.many).map .str), .tuple (rowsD f1.names f1.many)]) (d := .str f1.own) rfl)) (va_cons (ve_var (i := 4) rfl) va_nil) B7 H7 B7 H7 σ7 s7 _ fun vs8 B8 H8 t8 d8 => ?_
  cases d8 with
  | cons d9 d10 =>
  cases d10 with
  | cons d10 d11 =>
  cases d9; cases d11
  intro fr dfr hfr hdfr hne2
  have hB8 : Same B8 (upd (upd H8 dfr (.own fr)) fr (.ins CF dfr [])) := same_upd (same_upd t8.bh (t8.bh.free hdfr)) (t8.bh.free hfr)
  refine ⟨B8, fr, dfr, f1.own, args, _, rfl, hB8, t8.bh.free hfr, upd_same, d10, hal, hrng, fun H9 b9 hb9 k9 hf9 hbx9 => ⟨rfl, ?_⟩⟩
  have hsame : ∀ c o, H8 c = some o → H9 c = some o := fun c o h => k9 c o (by rw [upd_ne (ne_of_none h hfr), upd_ne (ne_of_none h hdfr)]; exact h) (ne_of_none h hfr)
  refine ⟨by show 1 ≤ sizeLine; decide, fun l hl => ?_⟩
  have ha9 : H9 a = some (.ins CW dx (wf3 a1 a2 dw ds dm)) := hsame _ _ (t8.h _ _ ha7)
  have hla : a ≠ l := ne_of_none ha9 hl
  have hfa : fr ≠ a := (ne_of_none (t8.h _ _ ha7) hfr).symm
  have hfl : fr ≠ l := ne_of_none hf9 hl
  have hbl : b9 ≠ l := ne_of_none hbx9 hl
  have hba : b9 ≠ a := ne_of hbx9 ha9 (by intro z; cases z)
  have nB8 : B8 a = none := t8.out nBa7 ha7
  have nBl : B8 l = none := by
    cases e : B8 l with
    | none => rfl
    | some o =>
      rw [hsame l o (t8.bh l o e)] at hl
      cases hl
  have nBb : B8 b9 = none := hB8.free hb9
  refine ⟨_, s7.at_ 0 (.raw (.ref a)) rfl, a, CW, dx, _, rfl, (by rw [upd_ne hla]; exact ha9), C.cl, C.n8, (by show 7 < 1000; decide), ?_⟩
  rw [put_stack a]
  refine q ⟨a, a1, a2, dw, ds, dm, l⟩ fr b9 dfr B8 _ rfl (((e3.trans e5).trans e7).trans t8.b) (same_upd (same_upd (fun c o h => hsame c o (t8.bh c o h)) nBl) nB8) (fun c o h n => ?_) upd_same (by rw [upd_ne hla.symm]; exact upd_same) (by rw [upd_ne hfa, upd_ne hfl]; exact hf9) (by rw [upd_ne hba, upd_ne hbl]; exact hbx9)
    ⟨(d3.same ((e5.trans e7).trans t8.b)), (d5.same (e7.trans t8.b)), d7.same t8.b⟩ nB8 nBl (t8.bh.free hfr) nBb
  have z := hsame c o (t8.h c o (kk7 c o h n))
  rw [upd_ne n, upd_ne (ne_of_none z hl)]
  exact z
end
end K37
/-! The walker on code: what it tells. -/
namespace K37
open PySem L2
section
variable {P : Program} {w : World} {K : PySem.W.Frag} {mg : Str → Option Value} {base : Heap} {aG aA : Addr} {δ δ1 : List Slot} {ta tb te tx ty tk tv : TE}
/-! ### a walker that stands -/
structure Fr where
  f : Addr
  b : Addr
  dx : Addr
  own : Str
  spot : Nat
  row : Int
  kvs : Bx
def FrAt (CF : Addr) (H : Hp) (r : Fr) : Prop := H r.f = some (.ins CF r.dx (ffs r.own r.spot r.b)) ∧ H r.b = some (.dK r.kvs)
/-- what stays: the walker's own object and its tables -/
structure WBase (K : PySem.W.Frag) (CW : Addr) (B H : Hp) (A : WAd) (dxw : Addr) (fns : List Fn) (bs : List Int) (res : V) : Prop where
  bh : Same B H
  wa : H A.w = some (.ins CW dxw (wfs A res))
  stat : Stat K B A fns bs
theorem WBase.same {CW : Addr} {B H H' : Hp} {A : WAd} {dxw : Addr} {fns : List Fn} {bs : List Int} {res : V} (h : WBase K CW B H A dxw fns bs res) (e : Same H H') : WBase K CW B H' A dxw fns bs res := ⟨h.bh.trans e, e _ _ h.wa, h.stat⟩
structure WSt (K : PySem.W.Frag) (CF CW : Addr) (B H : Hp) (A : WAd) (dxw : Addr) (fns : List Fn) (bs : List Int) (res : V) (frs : List Fr) : Prop where
  base : WBase K CW B H A dxw fns bs res
  st : H A.stack = some (.lst (frs.map fun r => .ref r.f))
  fr : ∀ r ∈ frs, FrAt CF H r
  at_ : ∀ r ∈ frs, ∃ fn ∈ fns, fn.own = r.own ∧ fn.rows[r.spot]? = some r.row
theorem WSt.same {CF CW : Addr} {B H H' : Hp} {A : WAd} {dxw : Addr} {fns : List Fn} {bs : List Int} {res : V} {frs : List Fr} (h : WSt K CF CW B H A dxw fns bs res frs) (e : Same H H') : WSt K CF CW B H' A dxw fns bs res frs :=
  ⟨h.base.same e, e _ _ h.st, fun r hr => ⟨e _ _ (h.fr r hr).1, e _ _ (h.fr r hr).2⟩, h.at_⟩
theorem get_stack (a : WAd) (r : V) : (wfs a r).lookup ("stack" : Str) = some (.ref a.stack) := by kernel_rfl
theorem get_wwords (a : WAd) (r : V) : (wfs a r).lookup ("words" : Str) = some (.ref a.words) := by kernel_rfl
theorem get_wspots (a : WAd) (r : V) : (wfs a r).lookup ("spots" : Str) = some (.ref a.spots) := by kernel_rfl
theorem get_wmarks (a : WAd) (r : V) : (wfs a r).lookup ("marks" : Str) = some (.ref a.marks) := by kernel_rfl
theorem get_wres (a : WAd) (r : V) : (wfs a r).lookup ("result" : Str) = some r := by kernel_rfl
theorem no_mark (a : WAd) (r : V) : (wfs a r).lookup ("mark" : Str) = none := by kernel_rfl
theorem no_under (a : WAd) (r : V) : (wfs a r).lookup ("under" : Str) = none := by kernel_rfl
theorem no_place (a : WAd) (r : V) : (wfs a r).lookup ("place" : Str) = none := by kernel_rfl
theorem dict_at {B H : Hp} {d : Addr} {ps : List (Str × PyData)} {p : Str × PyData} (h : DictD K B d ps) (e : Same B H) (hp : p ∈ ps) : ∃ v, DGet H d (.str p.1) (some v) ∧ Dp K B v p.2 := by
  obtain ⟨kv, h1, h2⟩ := h
  obtain ⟨v, hv, dv⟩ := h2 p hp
  refine ⟨v, ?_, dv⟩
  have z := DGet.k (k := .inr p.1) (e _ _ h1)
  rw [hv] at z
  exact z
theorem list_at {B H : Hp} {v : V} {ds : List PyData} {i : Nat} {x : PyData} (h : Dp K B v (.list ds)) (e : Same B H) (hx : ds[i]? = some x) : ∃ p xs u, v = .ref p ∧ SqL K H p xs ∧ atI xs (i : Int) = some u ∧ Dp K B u x := by
  cases h with
  | @lst p xs _ sq da =>
    obtain ⟨u, hu, du⟩ := dps_at da hx
    exact ⟨p, xs, u, rfl, e.seq sq, atI_nat hu, du⟩
theorem tup_at {B H : Hp} {v : V} {ds : List PyData} {i : Nat} {x : PyData} (h : Dp K B v (.tuple ds)) (e : Same B H) (hx : ds[i]? = some x) : ∃ p xs u, v = .ref p ∧ SqT K H p xs ∧ atI xs (i : Int) = some u ∧ Dp K B u x := by
  cases h with
  | @tup p xs _ sq da =>
    obtain ⟨u, hu, du⟩ := dps_at da hx
    exact ⟨p, xs, u, rfl, seq_t e sq, atI_nat hu, du⟩
/-! ### mark -/
def spMark (K : PySem.W.Frag) (CF CW : Addr) : Sp := fun vs H Q _ => ∃ (B : Hp) (A : WAd) (dxw : Addr) (fns : List Fn) (bs : List Int) (res : V) (r : Fr), vs = [.ref A.w, .ref r.f] ∧ WBase K CW B H A dxw fns bs res ∧ FrAt CF H r ∧ (∃ fn ∈ fns, fn.own = r.own ∧ fn.rows[r.spot]? = some r.row) ∧
  ∀ v, Dp K B v (markD r.own bs r.row) → Q v H
theorem sc_mark : FnScope ["self", "frame"] ["self", "frame"] (defScope s_mark) := ⟨rfl, rfl, rfl, by decide +kernel, rfl, by decide +kernel, by decide +kernel⟩
theorem ok_mark {f CF CW : Addr} {fd : FuncData} (F : Fun K "mark" "CodeWalker.mark" s_mark f fd) (T : Txt K mg aG aA) (CFp : CFt K CF) (C : CWt K CW) : FnOk P w K mg base CX0 1 f fd ["self", "frame"] (spMark K CF CW) := by
  have nd := sc_mark.nd
  refine F.ok sc_mark (fun vs H Q E h => ?_) (fun cdv A outer s H vs Q E hr h => ?_)
  · obtain ⟨_, _, _, _, _, _, _, rfl, _⟩ := h
    rfl
  have hu := hu_of hr
  obtain ⟨B, A, dxw, fns, bs, res, r, rfl, hw, hf, ⟨fn, hfn, ho, hrow⟩, q⟩ := h
  refine ⟨_, (pss_one (ps_ret (pe_ix ix_list (pe_dget hu (pe_fld (pv 0) rfl) (pe_fld (pv 1) rfl) (fun _ _ => rfl)) (pe_fld (pv 1) rfl) (fun _ _ => rfl)))), ?_⟩
  obtain ⟨v, hg, dv⟩ := dict_at hw.stat.marks hw.bh (p := fnM bs fn) (List.mem_map.mpr ⟨fn, hfn, rfl⟩)
  have hg' : DGet H A.marks (.str r.own) (some v) := by
    rw [← ho]
    exact hg
  obtain ⟨p, xs, u, rfl, sq, hat, du⟩ := list_at dv hw.bh (i := r.spot) (x := markD fn.own bs r.row) (by rw [List.getElem?_map, hrow]; rfl)
  rw [ho] at du
  exact ⟨_, rfl, A.w, CW, dxw, _, _, rfl, hw.wa, C.cl, C.n7, get_wmarks _ _, _, rfl, r.f, CF, r.dx, _, _, rfl, hf.1, CFp.cl, CFp.nO, ffs_owner _ _ _, A.marks, _, rfl, hg', _, rfl, r.f, CF, r.dx, _, _, rfl, hf.1, CFp.cl, CFp.nS, ffs_spot _ _ _, p, xs, _, u, rfl, rfl, sq, hat, q u du⟩
/-! ### frames -/
def toldD (frs : List Fr) : PyData := .list (frs.map fun r => chainD r.own r.row)
def spFrames (K : PySem.W.Frag) (CF CW : Addr) : Sp := fun vs H Q _ => ∃ (B : Hp) (A : WAd) (dxw : Addr) (fns : List Fn) (bs : List Int) (res : V) (frs : List Fr), vs = [.ref A.w] ∧ WSt K CF CW B H A dxw fns bs res frs ∧ frs.length ≤ 100 ∧
  ∀ v B' H', Tr B H B' H' → Dp K B' v (toldD frs) → Q v H'
theorem sc_frames : FnScope ["self", "found", "frame"] ["self"] (defScope s_frames) := ⟨rfl, rfl, rfl, by decide +kernel, rfl, by decide +kernel, by decide +kernel⟩
theorem ok_frames {f CF CW : Addr} {fd : FuncData} (F : Fun K "frames" "CodeWalker.frames" s_frames f fd) (T : Txt K mg aG aA) (CFp : CFt K CF) (C : CWt K CW) (m_mark : C8.Met P w K mg base 1 CW "mark" (spMark K CF CW) []) : FnOk P w K mg base CX0 2 f fd ["self"] (spFrames K CF CW) := by
  have nd := sc_frames.nd
  refine F.ok sc_frames (fun vs H Q E h => ?_) (fun cdv Ar outer s H vs Q E hr h => ?_)
  · obtain ⟨_, _, _, _, _, _, _, rfl, _⟩ := h
    rfl
  obtain ⟨B, A, dxw, fns, bs, res, frs, rfl, hw, hl, q⟩ := h
  refine ⟨_, (pss_cons (ps_set (i := 1) nd rfl (Or.inl rfl) (pe_lst pa_nil))
    (pss_cons (ps_for PassesOwn.never rfl (pi_list (pe_fld (pv 0) rfl)) (pg_name (i := 2) nd rfl (Or.inl rfl)) (pss_one (ps_expr (pe_bm PySem.F.plainAttrs_list PySem.F.slot_list_extend PySem.F.type_list_extend mt_extendT (pv 1) (pa_cons (pe_ix ix_tup (C8.pe_mt m_mark hr (by omega) (pv 0) (pa_cons (pv 2) pa_nil)) pe_int (fun _ _ => rfl)) pa_nil)))))
    (pss_one (ps_ret (pv 1))))), ?_⟩
  refine h_asg ?_
  refine ⟨Nat.zero_le _, fun l hl0 => ?_⟩
  have hwl : A.w ≠ l := ne_of_none hw.base.wa hl0
  refine h_seq ?_
  refine ⟨_, rfl, A.w, CW, dxw, _, _, rfl, (by rw [upd_ne hwl]; exact hw.base.wa), C.cl, C.n8, get_stack _ _, A.stack, rfl, ⟨_, SqL.of (by rw [upd_ne (ne_of_none hw.st hl0)]; exact hw.st)⟩, ?_⟩
  refine for_list (K := K) (a := A.stack) (xs := frs.map fun r => V.ref r.f) (fun i σ H' => ∃ (x : Option V) (xs : List V), σ = [some (.ref A.w), some (.ref l), x] ∧ Same H H' ∧ H' l = some (.lst xs) ∧ DpAll K B xs ((frs.take i).map fun r => chainD r.own r.row))
    ⟨none, [], rfl, same_upd (Same.refl H) hl0, upd_same, .nil⟩ (fun i σ H' _ ⟨_, _, _, e, _⟩ => SqL.of (e _ _ hw.st)) ?_ ?_
  · rintro i x σ H' hx ⟨x0, xs, rfl, e, hL, da⟩
    rw [List.getElem?_map] at hx
    cases er : frs[i]? with
    | none => rw [er] at hx; cases hx
    | some r =>
    rw [er] at hx
    cases hx
    have hmem := List.mem_of_getElem? er
    have hi := (List.getElem?_eq_some_iff.mp er).1
    have hw' := hw.same e
    refine ⟨_, rfl, .inl ⟨rfl, xs, SqL.of hL⟩, ?_⟩
    refine ⟨_, rfl, A.w, dxw, _, rfl, hw'.base.wa, no_mark _ _, _, rfl, B, A, dxw, fns, bs, res, r, rfl, hw'.base, hw'.fr r hmem, hw'.at_ r hmem, fun v dv => ?_⟩
    obtain ⟨p, ys, u, rfl, sq, hat, du⟩ := tup_at dv hw'.base.bh (i := 0) (x := .tuple [chainD r.own r.row]) rfl
    refine ⟨p, ys, _, u, rfl, rfl, sq, hat, ?_⟩
    cases du with
    | @tup p2 zs _ s2 d2 =>
    have hlz := dps_len d2
    refine ⟨l, p2, xs, zs, rfl, rfl, hL, seq_t hw'.base.bh s2, ?_, ?_⟩
    · rw [dps_len da, hlz, List.length_map, List.length_take]
      show _ + 1 ≤ 1000
      omega
    · refine ⟨_, xs ++ zs, rfl, same_upd e hl0, upd_same, ?_⟩
      rw [List.take_add_one, er, List.map_append]
      exact dps_app da d2
  · rintro σ H' ⟨x0, xs, rfl, e, hL, da⟩
    rw [List.length_map, List.take_length] at da
    have hBl : B l = none := hw.base.bh.free hl0
    refine ⟨_, rfl, q _ (upd B l (.lst xs)) H' ((Tr.grow hw.base.bh e).still hl0 hBl hL) (.lst (SqL.of upd_same) (dps_same (same_upd (Same.refl B) hBl) da))⟩
/-! ### under -/
def spUnder (K : PySem.W.Frag) (CF CW : Addr) : Sp := fun vs H Q _ => ∃ (B : Hp) (A : WAd) (dxw : Addr) (fns : List Fn) (bs : List Int) (res : V) (frs : List Fr) (i : Nat) (r : Fr), vs = [.ref A.w, .int (i : Int)] ∧ WSt K CF CW B H A dxw fns bs res frs ∧ frs[i]? = some r ∧
  ∀ p H', Same H H' → H p = none → H' p = some (.tup [.ref r.f, .int (i : Int)]) → Q (.ref p) H'
theorem sc_under : FnScope ["self", "level", "first", "frame", "many"] ["self", "level"] (defScope s_under) := ⟨rfl, rfl, rfl, by decide +kernel, rfl, by decide +kernel, by decide +kernel⟩
theorem ok_under {f CF CW : Addr} {fd : FuncData} (F : Fun K "under" "CodeWalker.under" s_under f fd) (T : Txt K mg aG aA) (CFp : CFt K CF) (C : CWt K CW) (m_mark : C8.Met P w K mg base 1 CW "mark" (spMark K CF CW) []) : FnOk P w K mg base CX0 2 f fd ["self", "level"] (spUnder K CF CW) := by
  have nd := sc_under.nd
  refine F.ok sc_under (fun vs H Q E h => ?_) (fun cdv Ar outer s H vs Q E hr h => ?_)
  · obtain ⟨_, _, _, _, _, _, _, _, _, rfl, _⟩ := h
    rfl
  obtain ⟨B, A, dxw, fns, bs, res, frs, i, r, rfl, hw, hi, q⟩ := h
  refine ⟨_, (pss_cons (ps_set (i := 2) nd rfl (Or.inl rfl) pe_int)
    (pss_cons (ps_for PassesOwn.never rfl (pi_list (pe_fld (pv 0) rfl)) (pg_name (i := 3) nd rfl (Or.inl rfl)) (pss_cons (ps_set (i := 4) nd rfl (Or.inl rfl) (pe_callB call_len_seq (by rfl) T.len_ (by decide +kernel) (pa_cons (pe_ix ix_tup (C8.pe_mt m_mark hr (by omega) (pv 0) (pa_cons (pv 3) pa_nil)) pe_int (fun _ _ => rfl)) pa_nil))) (pss_cons (ps_if (pt_chain op_le op_lt (pv 2) (pv 1) (pe_op op_add (pv 2) (pv 4))) (pss_one (ps_ret (pe_tup (pa_cons (pv 3) (pa_cons (pv 2) pa_nil))))) pss_nil) (pss_one (ps_set (i := 2) nd rfl (Or.inl rfl) (pe_op op_add (pv 2) (pv 4)))))))
    (pss_one ps_never))), ?_⟩
  refine h_asg ?_
  refine h_seq ?_
  refine ⟨_, rfl, A.w, CW, dxw, _, _, rfl, hw.base.wa, C.cl, C.n8, get_stack _ _, A.stack, rfl, ⟨_, SqL.of hw.st⟩, ?_⟩
  refine for_list (K := K) (a := A.stack) (xs := frs.map fun r => V.ref r.f) (fun j σ H' => ∃ (x y : Option V), σ = [some (.ref A.w), some (.int (i : Int)), some (.int (j : Int)), x, y] ∧ H' = H ∧ j ≤ i)
    ⟨none, none, rfl, rfl, Nat.zero_le _⟩ (fun j σ H' _ ⟨_, _, _, e, _⟩ => by rw [e]; exact SqL.of hw.st) ?_ ?_
  · rintro j x σ H' hx ⟨x0, y0, rfl, rfl, hji⟩
    rw [List.getElem?_map] at hx
    cases er : frs[j]? with
    | none => rw [er] at hx; cases hx
    | some r' =>
    rw [er] at hx
    cases hx
    have hmem := List.mem_of_getElem? er
    refine h_asg ?_
    refine ⟨_, rfl, A.w, dxw, _, rfl, hw.base.wa, no_mark _ _, _, rfl, B, A, dxw, fns, bs, res, r', rfl, hw.base, hw.fr r' hmem, hw.at_ r' hmem, fun v dv => ?_⟩
    obtain ⟨p, ys, u, rfl, sq, hat, du⟩ := tup_at dv hw.base.bh (i := 0) (x := .tuple [chainD r'.own r'.row]) rfl
    refine ⟨p, ys, _, u, rfl, rfl, sq, hat, ?_⟩
    cases du with
    | @tup p2 zs _ s2 d2 =>
    have hlz := dps_len d2
    refine ⟨p2, zs, rfl, .inr (seq_t hw.base.bh s2), ?_⟩
    have hz1 : ((zs.length : Nat) : Int) = 1 := by
      rw [hlz]
      rfl
    rw [hz1]
    refine h_if ?_
    refine ⟨_, rfl, _, rfl, _, _, rfl, rfl, _, rfl, ?_⟩
    have h1 : decide ((j : Int) ≤ (i : Int)) = true := decide_eq_true (by omega)
    rw [h1]
    refine iteT ?_
    refine ⟨_, rfl, _, rfl, _, _, rfl, rfl, _, _, rfl, rfl, _, rfl, ?_⟩
    by_cases hlt : (i : Int) < (j : Int) + 1
    · rw [decide_eq_true hlt]
      refine iteT ?_
      have eji : j = i := by omega
      subst eji
      rw [hi] at er
      cases er
      refine ⟨_, rfl, _, rfl, by show 2 ≤ sizeLine; decide, fun p hp => ?_⟩
      exact q p _ (same_upd (Same.refl _) hp) hp upd_same
    · rw [decide_eq_false hlt]
      refine iteF ?_
      refine ⟨_, rfl, _, rfl, _, _, rfl, rfl, ?_⟩
      exact ⟨_, _, rfl, rfl, by omega⟩
  · rintro σ H' ⟨x0, y0, rfl, rfl, hji⟩
    have := (List.getElem?_eq_some_iff.mp hi).1
    rw [List.length_map] at hji
    omega
end
end K37
/-! The walker on code: values of names. -/
namespace K37
open PySem L2
section
variable {P : Program} {w : World} {K : PySem.W.Frag} {mg : Str → Option Value} {base : Heap} {aG aA : Addr} {δ δ1 : List Slot} {ta tb te tx ty tk tv : TE}
theorem strs_flat {B : Hp} {xs : List V} {ns : List Str} (h : DpAll K B xs (ns.map .str)) : xs = ns.map V.str ∧ xs.all flatV = true := by
  obtain ⟨rfl, h2⟩ := flat_dps (flat_strs ns) h
  exact ⟨rfl, h2⟩
theorem eqV_str (a b : Str) : eqV (.str a) (.str b) = decide (a = b) := by
  show (a == b) = _
  by_cases e : a = b
  · rw [decide_eq_true e, e, beq_self_eq_true]
  · rw [decide_eq_false e, beq_eq_false_iff_ne.mpr e]
/-! ### place -/
def spPlace (K : PySem.W.Frag) (CF CW : Addr) : Sp := fun vs H Q _ => ∃ (B : Hp) (A : WAd) (dxw : Addr) (fns : List Fn) (bs : List Int) (res : V) (frs : List Fr) (i : Nat) (r : Fr) (fn : Fn) (j : Nat) (n : Str) (b : Int), vs = [.ref A.w, .int (i : Int), .str n] ∧ WSt K CF CW B H A dxw fns bs res frs ∧ frs[i]? = some r ∧
  fn ∈ fns ∧ fn.own = r.own ∧ fn.names.Nodup ∧ fn.names[j]? = some n ∧ bs[j]? = some b ∧ ∀ v H', Same H H' → Dp K B v (boxD b) → Q v H'
theorem sc_place : FnScope ["self", "level", "name", "frame", "first", "chain", "views", "words"] ["self", "level", "name"] (defScope s_place) := ⟨rfl, rfl, rfl, by decide +kernel, rfl, by decide +kernel, by decide +kernel⟩
theorem ok_place {f CF CW : Addr} {fd : FuncData} (F : Fun K "place" "CodeWalker.place" s_place f fd) (T : Txt K mg aG aA) (CFp : CFt K CF) (C : CWt K CW) (m_mark : C8.Met P w K mg base 1 CW "mark" (spMark K CF CW) []) (m_under : C8.Met P w K mg base 2 CW "under" (spUnder K CF CW) []) :
    FnOk P w K mg base CX0 3 f fd ["self", "level", "name"] (spPlace K CF CW) := by
  have nd := sc_place.nd
  refine F.ok sc_place (fun vs H Q E h => ?_) (fun cdv Ar outer s H vs Q E hr h => ?_)
  · obtain ⟨_, _, _, _, _, _, _, _, _, _, _, _, _, rfl, _⟩ := h
    rfl
  have hu := hu_of hr
  obtain ⟨B, A, dxw, fns, bs, res, frs, i, r, fn, j, n, b, rfl, hw, hi, hfn, ho, hnd, hj, hb, q⟩ := h
  refine ⟨_, (pss_cons (ps_asg (C8.pe_mt m_under hr (by omega) (pv 0) (pa_cons (pv 1) pa_nil)) (pg_tup rfl (pgs_cons (pg_name (i := 3) nd rfl (Or.inl rfl)) (pgs_cons (pg_name (i := 4) nd rfl (Or.inl rfl)) pgs_nil))))
    (pss_cons (ps_asg (C8.pe_mt m_mark hr (by omega) (pv 0) (pa_cons (pv 3) pa_nil)) (pg_tup rfl (pgs_cons (pg_name (i := 5) nd rfl (Or.inl rfl)) (pgs_cons (pg_name (i := 6) nd rfl (Or.inl rfl)) pgs_nil))))
    (pss_cons (ps_set (i := 7) nd rfl (Or.inl rfl) (pe_dget hu (pe_fld (pv 0) rfl) (pe_ix ix_tup (pe_ix ix_tup (pv 5) (pe_op op_sub (pv 1) (pv 4)) (fun _ _ => rfl)) pe_int (fun _ _ => rfl)) (fun _ _ => rfl)))
    (pss_cons (ps_if (pt_cmpR op_notIn_seq (pv 2) (pv 7) rfl) (pss_one ps_never) pss_nil)
    (pss_one (ps_ret (pe_ix ix_list (pe_ix ix_list (pv 6) (pe_op op_sub (pv 1) (pv 4)) (fun _ _ => rfl)) (pe_bm PySem.F.plainAttrs_list PySem.F.slot_list_index PySem.F.type_list_index mt_index (pv 7) (pa_cons (pv 2) pa_nil)) (fun _ _ => rfl)))))))), ?_⟩
  have hmem := List.mem_of_getElem? hi
  refine h_asgG ?_
  refine ⟨_, rfl, A.w, dxw, _, rfl, hw.base.wa, no_under _ _, _, rfl, B, A, dxw, fns, bs, res, frs, i, r, rfl, hw, hi, fun p H1 e1 n1 hp1 => ?_⟩
  refine ⟨p, _, rfl, SqT.of hp1, rfl, _, _, rfl, _, _, rfl, rfl, ?_⟩
  have hw1 := hw.same e1
  refine h_asgG ?_
  refine ⟨_, rfl, A.w, dxw, _, rfl, hw1.base.wa, no_mark _ _, _, rfl, B, A, dxw, fns, bs, res, r, rfl, hw1.base, hw1.fr r hmem, hw1.at_ r hmem, fun v dv => ?_⟩
  cases dv with
  | @tup p2 xs _ s2 d2 =>
  cases d2 with
  | @cons vch _ _ _ dch d3 =>
  cases d3 with
  | @cons vvw _ _ _ dvw d4 =>
  cases d4
  refine ⟨p2, _, rfl, seq_t hw1.base.bh s2, rfl, _, _, rfl, _, _, rfl, rfl, ?_⟩
  have e0 : (i : Int) - (i : Int) = ((0 : Nat) : Int) := by omega
  obtain ⟨p3, x3, u3, rfl, q3, a3, d3⟩ := tup_at dch hw1.base.bh (i := 0) rfl
  obtain ⟨p4, x4, u4, rfl, q4, a4, d4⟩ := tup_at d3 hw1.base.bh (i := 0) rfl
  cases d4
  obtain ⟨vw, hg, dw⟩ := dict_at hw1.base.stat.words hw1.base.bh (p := fnW fn) (List.mem_map.mpr ⟨fn, hfn, rfl⟩)
  have hg' : DGet H1 A.words (.str r.own) (some vw) := by
    rw [← ho]
    exact hg
  refine h_asg ?_
  refine ⟨_, rfl, A.w, CW, dxw, _, _, rfl, hw1.base.wa, C.cl, C.n5, get_wwords _ _, _, rfl, _, rfl, _, rfl, _, _, rfl, rfl, p3, x3, _, _, rfl, rfl, q3, (by rw [e0]; exact a3), p4, x4, _, _, rfl, rfl, q4, a4, A.words, vw, rfl, hg', ?_⟩
  cases dw with
  | @lst p5 x5 _ s5 d5 =>
  obtain ⟨rfl, fl5⟩ := strs_flat d5
  have sq5 := hw1.base.bh.seq s5
  have hin : inV (.str n) (fn.names.map V.str) = true := by
    rw [inV_strs, decide_eq_true (List.mem_of_getElem? hj)]
  refine h_if ?_
  refine ⟨_, rfl, _, rfl, p5, _, rfl, .inl sq5, rfl, fl5, false, ?_, ?_⟩
  · show V.bl (!inV (.str n) (fn.names.map V.str)) = V.bl false
    rw [hin]
    rfl
  refine iteF ?_
  obtain ⟨p6, x6, u6, rfl, q6, a6, d6⟩ := list_at dvw hw1.base.bh (i := 0) rfl
  obtain ⟨p7, x7, u7, rfl, q7, a7, d7⟩ := list_at d6 hw1.base.bh (i := j) (x := boxD b) (by rw [List.getElem?_map, hb]; rfl)
  refine ⟨_, rfl, _, rfl, _, rfl, _, _, rfl, rfl, p6, x6, _, _, rfl, rfl, q6, (by rw [e0]; exact a6), _, rfl, .inl ⟨rfl, _, sq5⟩, _, rfl, p5, _, _, j, _, rfl, rfl, sq5, rfl, fl5, (by rw [List.getElem?_map, hj]; rfl), (by rw [eqV_str]; exact decide_eq_true rfl), ?_, p7, x7, _, _, rfl, rfl, q7, a7, q _ _ e1 d7⟩
  intro m z hm hz
  rw [List.getElem?_map] at hz
  cases em : fn.names[m]? with
  | none => rw [em] at hz; cases hz
  | some nm =>
    rw [em] at hz
    cases hz
    rw [eqV_str]
    refine decide_eq_false fun e => ?_
    subst e
    have := nd_ix hnd em hj
    omega
/-! ### told -/
def spTold (K : PySem.W.Frag) (CF CW : Addr) : Sp := fun vs H Q _ => ∃ (B : Hp) (A : WAd) (dxw : Addr) (fns : List Fn) (bs : List Int) (res : V) (frs : List Fr) (i : Nat) (r : Fr) (fn : Fn) (j : Nat) (n : Str) (b : Int) (m : Nat), vs = [.ref A.w, .int (i : Int), .str n] ∧ WSt K CF CW B H A dxw fns bs res frs ∧ frs[i]? = some r ∧
  fn ∈ fns ∧ fn.own = r.own ∧ fn.names.Nodup ∧ fn.names[j]? = some n ∧ bs[j]? = some b ∧ BOk m r.kvs ∧ ∀ H', Same H H' → Q (.int (gB r.kvs b)) H'
theorem sc_told : FnScope ["self", "level", "name", "place"] ["self", "level", "name"] (defScope s_told) := ⟨rfl, rfl, rfl, by decide +kernel, rfl, by decide +kernel, by decide +kernel⟩
theorem ok_told {f CF CW : Addr} {fd : FuncData} (F : Fun K "told" "CodeWalker.told" s_told f fd) (T : Txt K mg aG aA) (CFp : CFt K CF) (C : CWt K CW) (m_place : C8.Met P w K mg base 3 CW "place" (spPlace K CF CW) []) (m_under : C8.Met P w K mg base 2 CW "under" (spUnder K CF CW) []) (c_worth : C8.Cal P w K mg base 4 "worth" (spS K (R_worth 3)) []) :
    FnOk P w K mg base CX0 5 f fd ["self", "level", "name"] (spTold K CF CW) := by
  have nd := sc_told.nd
  refine F.ok sc_told (fun vs H Q E h => ?_) (fun cdv Ar outer s H vs Q E hr h => ?_)
  · obtain ⟨_, _, _, _, _, _, _, _, _, _, _, _, _, _, rfl, _⟩ := h
    rfl
  have hu := hu_of hr
  obtain ⟨B, A, dxw, fns, bs, res, frs, i, r, fn, j, n, b, m, rfl, hw, hi, hfn, ho, hnd, hj, hb, ok, q⟩ := h
  refine ⟨_, (pss_cons (ps_set (i := 3) nd rfl (Or.inl rfl) (C8.pe_mt m_place hr (by omega) (pv 0) (pa_cons (pv 1) (pa_cons (pv 2) pa_nil))))
    (pss_cons (ps_if (pt_cmp (pc_isN (pv 3))) (pss_one (ps_ret pe_non)) pss_nil)
    (pss_one (ps_ret (C8.pe_c c_worth hr (by omega) (by rfl) (pa_cons (pv 3) (pa_cons (pe_fld (pe_ix ix_tup (C8.pe_mt m_under hr (by omega) (pv 0) (pa_cons (pv 1) pa_nil)) pe_int (fun _ _ => rfl)) rfl) pa_nil))))))), ?_⟩
  have hmem := List.mem_of_getElem? hi
  refine h_asg ?_
  refine ⟨_, rfl, A.w, dxw, _, rfl, hw.base.wa, no_place _ _, _, rfl, _, rfl, B, A, dxw, fns, bs, res, frs, i, r, fn, j, n, b, rfl, hw, hi, hfn, ho, hnd, hj, hb, fun v H1 e1 dv => ?_⟩
  have hw1 := hw.same e1
  refine h_if ?_
  have hv : decide (v = V.non) = false := by
    cases dv
    exact decide_eq_false fun z => nomatch z
  refine ⟨_, rfl, _, rfl, ?_⟩
  rw [hv]
  refine iteF ?_
  refine ⟨_, rfl, _, rfl, A.w, dxw, _, rfl, hw1.base.wa, no_under _ _, _, rfl, B, A, dxw, fns, bs, res, frs, i, r, rfl, hw1, hi, fun p H2 e2 n2 hp2 => ?_⟩
  have hw2 := hw1.same e2
  refine ⟨p, _, _, _, rfl, rfl, SqT.of hp2, rfl, r.f, CF, r.dx, _, _, rfl, (hw2.fr r hmem).1, CFp.cl, CFp.nB, ffs_boxes _ _ _, ?_⟩
  exact ⟨B, [.val (rkD (.box b)), .fact (DkF r.kvs)], _, hw2.base.bh, .vl dv (.ft ⟨r.b, rfl, (hw2.fr r hmem).2⟩ (DkF.keeps _) .nil), ⟨.box b, r.kvs, m, rfl, trivial, by show 0 < 3; decide, ok, rfl⟩, fun v3 B3 H3 t3 d3 => by
    cases d3
    exact q H3 ((e1.trans e2).trans t3.h)⟩
/-! ### ended, answer -/
def spEnded (CW : Addr) : Sp := fun vs H Q _ => ∃ (A : WAd) (dxw : Addr) (res : V), vs = [.ref A.w] ∧ H A.w = some (.ins CW dxw (wfs A res)) ∧ Q (.bl (!decide (res = .non))) H
theorem sc_ended : FnScope ["self"] ["self"] (defScope s_ended) := ⟨rfl, rfl, rfl, by decide +kernel, rfl, by decide +kernel, by decide +kernel⟩
theorem ok_ended {f CW : Addr} {fd : FuncData} (F : Fun K "ended" "Walker.ended" s_ended f fd) (T : Txt K mg aG aA) (C : CWt K CW) : FnOk P w K mg base CX0 1 f fd ["self"] (spEnded CW) := by
  have nd := sc_ended.nd
  refine F.ok sc_ended (fun vs H Q E h => ?_) (fun cdv Ar outer s H vs Q E hr h => ?_)
  · obtain ⟨_, _, _, rfl, _⟩ := h
    rfl
  obtain ⟨A, dxw, res, rfl, ha, q⟩ := h
  refine ⟨_, (pss_one (ps_ret (pe_cmp (pc_notN (pe_fld (pv 0) rfl))))), ?_⟩
  exact ⟨_, rfl, A.w, CW, dxw, _, _, rfl, ha, C.cl, C.n4, get_wres _ _, q⟩
def spAnswer (CW : Addr) : Sp := fun vs H Q _ => ∃ (A : WAd) (dxw : Addr) (res : V), vs = [.ref A.w] ∧ H A.w = some (.ins CW dxw (wfs A res)) ∧ Q res H
theorem sc_answer : FnScope ["self"] ["self"] (defScope s_answer) := ⟨rfl, rfl, rfl, by decide +kernel, rfl, by decide +kernel, by decide +kernel⟩
theorem ok_answer {f CW : Addr} {fd : FuncData} (F : Fun K "answer" "Walker.answer" s_answer f fd) (T : Txt K mg aG aA) (C : CWt K CW) : FnOk P w K mg base CX0 1 f fd ["self"] (spAnswer CW) := by
  have nd := sc_answer.nd
  refine F.ok sc_answer (fun vs H Q E h => ?_) (fun cdv Ar outer s H vs Q E hr h => ?_)
  · obtain ⟨_, _, _, rfl, _⟩ := h
    rfl
  obtain ⟨A, dxw, res, rfl, ha, q⟩ := h
  refine ⟨_, (pss_one (ps_ret (pe_fld (pv 0) rfl))), ?_⟩
  exact ⟨_, rfl, A.w, CW, dxw, _, _, rfl, ha, C.cl, C.n4, get_wres _ _, q⟩
end
end K37
/-! The walker on code: a step. -/
namespace K37
open PySem L2
/-! ### behind many changes -/
def Kp (L : List Addr) (H H' : Hp) : Prop := ∀ a o, H a = some o → a ∉ L → H' a = some o
theorem Kp.of {L : List Addr} {H H' : Hp} (x : Same H H') : Kp L H H' := fun a o h _ => x a o h
theorem Kp.trans {L : List Addr} {H H1 H2 : Hp} (x : Kp L H H1) (y : Kp L H1 H2) : Kp L H H2 := fun a o h n => y a o (x a o h n) n
theorem Kp.keep {L : List Addr} {H H' : Hp} {b : Addr} (x : Keep b H H') (hb : b ∈ L) : Kp L H H' := fun a o h n => x a o h fun e => n (e ▸ hb)
theorem Kp.upd {L : List Addr} {H : Hp} {b : Addr} {o : HO} (hb : b ∈ L) : Kp L H (upd H b o) := Kp.keep Keep.upd hb
theorem Kp.base {L : List Addr} {B H H' : Hp} (x : Kp L H H') (e : Same B H) (n : ∀ b ∈ L, B b = none) : Same B H' := fun a o h => x a o (e a o h) fun m => by
  rw [n a m] at h
  cases h
theorem Kp.mono {L L' : List Addr} {H H' : Hp} (x : Kp L H H') (h : ∀ a ∈ L, a ∈ L') : Kp L' H H' := fun a o e n => x a o e fun m => n (h a m)
theorem Kp.same {L : List Addr} {H H1 H2 : Hp} (x : Kp L H H1) (y : Same H1 H2) : Kp L H H2 := x.trans (.of y)
section
variable {P : Program} {w : World} {K : PySem.W.Frag} {mg : Str → Option Value} {base : Heap} {aG aA : Addr} {δ δ1 : List Slot} {ta tb te tx ty tk tv : TE}
theorem tup_atI {B H : Hp} {v : V} {ds : List PyData} {i : Int} {x : PyData} (h : Dp K B v (.tuple ds)) (e : Same B H) (hx : atI ds i = some x) : ∃ p xs u, v = .ref p ∧ SqT K H p xs ∧ atI xs i = some u ∧ Dp K B u x := by
  cases h with
  | @tup p xs _ sq da =>
    obtain ⟨j, hj, ej⟩ := atI_ix (dps_len da) hx
    obtain ⟨u, hu, du⟩ := dps_at da hj
    exact ⟨p, xs, u, rfl, seq_t e sq, ej.trans hu, du⟩
theorem lst_atI {B H : Hp} {v : V} {ds : List PyData} {i : Int} {x : PyData} (h : Dp K B v (.list ds)) (e : Same B H) (hx : atI ds i = some x) : ∃ p xs u, v = .ref p ∧ SqL K H p xs ∧ atI xs i = some u ∧ Dp K B u x := by
  cases h with
  | @lst p xs _ sq da =>
    obtain ⟨j, hj, ej⟩ := atI_ix (dps_len da) hx
    obtain ⟨u, hu, du⟩ := dps_at da hj
    exact ⟨p, xs, u, rfl, e.seq sq, ej.trans hu, du⟩
theorem h_next {tz : TS} {D : Ends} {σ : L2.St} {H : Hp} (h : tz D σ H) : tNext { D with nx := tz D } σ H := h
theorem h_drop1 {te : TE} {tz : TS} {D : Ends} {σ : L2.St} {H : Hp} (h : te σ H fun _ H1 => tz D σ H1) : tDrop te { D with nx := tz D } σ H := h
/-! ### acts -/
def Act.kind : Act → Str
  | .go _ => "go"
  | .back _ => "back"
  | .call _ _ _ => "call"
  | .wait _ _ => "wait"
def Act.parts : Act → List PyData
  | .go k => [.str "go", .int k]
  | .back t => [.str "back", rkD t]
  | .call g es k => [.str "call", .str g, .tuple (es.map rkD), .int k]
  | .wait b k => [.str "wait", optD b, .int k]
theorem actD_parts (a : Act) : actD a = .tuple a.parts := by cases a <;> rfl
theorem act_at {B H : Hp} {v : V} {a : Act} {i : Int} {x : PyData} (h : Dp K B v (actD a)) (e : Same B H) (hx : atI a.parts i = some x) : ∃ p xs u, v = .ref p ∧ SqT K H p xs ∧ atI xs i = some u ∧ Dp K B u x := by
  rw [actD_parts] at h
  exact tup_atI h e hx
theorem act_is {i : Nat} {x : Str} {σ : L2.St} {B H : Hp} {v : V} {a : Act} (h : Dp K B v (actD a)) (bh : Same B H) (e : σ[i]? = some (some v)) {Q : Bool → Hp → Prop} (q : Q (decide (a.kind = x)) H) :
    tTest (tOp rEq (tOp (rIxT K) (tVar i) (tC (.int 0))) (tC (.str x))) σ H Q := by
  obtain ⟨p, xs, u, rfl, sq, hat, du⟩ := act_at (i := 0) h bh (x := .str a.kind) (by cases a <;> rfl)
  cases du
  refine ⟨_, e, p, xs, _, _, rfl, rfl, sq, hat, rfl, ?_⟩
  have z : decide (V.str a.kind = V.str x) = decide (a.kind = x) := by
    by_cases k : a.kind = x
    · rw [decide_eq_true k, decide_eq_true (congrArg V.str k)]
    · rw [decide_eq_false k, decide_eq_false fun h => k (V.str.inj h)]
  exact ⟨_, congrArg V.bl z, q⟩
/-! ### done -/
def spDone (K : PySem.W.Frag) (CW : Addr) : Sp := fun vs H Q _ => ∃ (B : Hp) (vw vf va vn : V) (a : Act), vs = [vw, vf, va, vn] ∧ Same B H ∧ Dp K B va (actD a) ∧ (a.kind = "go" ∨ a.kind = "call") ∧ Q .non H
theorem sc_done : FnScope ["self", "frame", "act", "numbers", "record"] ["self", "frame", "act", "numbers"] (defScope s_done) := ⟨rfl, rfl, rfl, by decide +kernel, rfl, by decide +kernel, by decide +kernel⟩
theorem ok_done {f CW : Addr} {fd : FuncData} (F : Fun K "done" "CodeWalker.done" s_done f fd) (T : Txt K mg aG aA) : FnOk P w K mg base CX0 1 f fd ["self", "frame", "act", "numbers"] (spDone K CW) := by
  have nd := sc_done.nd
  refine F.ok sc_done (fun vs H Q E h => ?_) (fun cdv Ar outer s H vs Q E hr h => ?_)
  · obtain ⟨_, _, _, _, _, _, rfl, _⟩ := h
    rfl
  obtain ⟨B, vw, vf, va, vn, a, rfl, bh, da, hk, q⟩ := h
  refine ⟨_, (pss_cons (ps_if (pt_cmpR op_eq (pe_ix ix_tup (pv 2) pe_int (fun _ _ => rfl)) pe_str (nomark _)) pss_never pss_nil)
    (pss_cons (ps_if (pt_cmpR op_eq (pe_ix ix_tup (pv 2) pe_int (fun _ _ => rfl)) pe_str (nomark _)) pss_never pss_nil)
    (pss_cons (ps_if (pt_cmpR op_eq (pe_ix ix_tup (pv 2) pe_int (fun _ _ => rfl)) pe_str (nomark _)) pss_never pss_nil)
    (pss_cons (ps_if (pt_cmpR op_eq (pe_ix ix_tup (pv 2) pe_int (fun _ _ => rfl)) pe_str (nomark _)) pss_never pss_nil)
    (pss_one (ps_ret pe_non)))))), ?_⟩
  have no : ∀ x : Str, x ≠ "go" → x ≠ "call" → decide (a.kind = x) = false := fun x h1 h2 => decide_eq_false fun e => by
    rcases hk with z | z
    · exact h1 (e.symm.trans z)
    · exact h2 (e.symm.trans z)
  refine h_if (act_is da bh rfl ?_)
  rw [no _ (by decide +kernel) (by decide +kernel)]
  refine iteF ?_
  refine h_if (act_is da bh rfl ?_)
  rw [no _ (by decide +kernel) (by decide +kernel)]
  refine iteF ?_
  refine h_if (act_is da bh rfl ?_)
  rw [no _ (by decide +kernel) (by decide +kernel)]
  refine iteF ?_
  refine h_if (act_is da bh rfl ?_)
  rw [no _ (by decide +kernel) (by decide +kernel)]
  refine iteF ?_
  exact q
/-! ### a spot -/
structure SpotAt (fns : List Fn) (own : Str) (i : Nat) (l : Sets) (act : Act) : Prop where
  ex : ∃ fn ∈ fns, fn.own = own ∧ fn.spots[i]? = some (l, act)
  ok : l.Ok
  len : l.length ≤ 10
  asks : ∀ t ∈ act.asks, t.Ok ∧ t.dep < 3
  alen : act.asks.length ≤ 100
theorem spot_get {CW : Addr} {B H : Hp} {A : WAd} {dxw : Addr} {fns : List Fn} {bs : List Int} {res : V} {own : Str} {i : Nat} {l : Sets} {act : Act} (hw : WBase K CW B H A dxw fns bs res) (h : SpotAt fns own i l act) :
    ∃ p xs pu vs va, DGet H A.spots (.str own) (some (.ref p)) ∧ SqL K H p xs ∧ atI xs (i : Int) = some (.ref pu) ∧ SqT K H pu [vs, va] ∧ Dp K B vs (setsD l) ∧ Dp K B va (actD act) := by
  obtain ⟨fn, hfn, ho, hsp⟩ := h.ex
  obtain ⟨v, hg, dv⟩ := dict_at hw.stat.spots hw.bh (p := fnS fn) (List.mem_map.mpr ⟨fn, hfn, rfl⟩)
  have hg' : DGet H A.spots (.str own) (some v) := by
    rw [← ho]
    exact hg
  obtain ⟨p, xs, u, rfl, sq, hat, du⟩ := list_at dv hw.bh (i := i) (x := spotD (l, act)) (by rw [List.getElem?_map, hsp]; rfl)
  cases du with
  | @tup p2 ys _ s2 d2 =>
  cases d2 with
  | @cons vs _ _ _ d3 d4 =>
  cases d4 with
  | @cons va _ _ _ d5 d6 =>
  cases d6
  exact ⟨p, xs, p2, vs, va, hg', sq, hat, seq_t hw.bh s2, d3, d5⟩
def putO (kvs : Bx) (n : Int) : Option Int → Bx
  | none => kvs
  | some k => putK kvs (.inl k) (.int n)
theorem kept_b {H : Hp} {b : Addr} {kvs : Bx} {n : Int} (h : H b = some (.dK kvs)) : ∀ bx : Option Int, keptH H b kvs n bx b = some (.dK (putO kvs n bx))
  | none => h
  | some k => upd_same
theorem kept_keep {H : Hp} {b : Addr} {kvs : Bx} {n : Int} : ∀ bx : Option Int, Keep b H (keptH H b kvs n bx)
  | none => .refl
  | some k => .upd
theorem wfs_res (A : WAd) (v : V) : putF "result" v (wfs A .non) = wfs A v := by kernel_rfl
theorem no_gone (a : WAd) (r : V) : (wfs a r).lookup ("gone_back" : Str) = none := by kernel_rfl
theorem no_done (a : WAd) (r : V) : (wfs a r).lookup ("done" : Str) = none := by kernel_rfl
theorem no_ended (a : WAd) (r : V) : (wfs a r).lookup ("ended" : Str) = none := by kernel_rfl
theorem no_advance (a : WAd) (r : V) : (wfs a r).lookup ("advance" : Str) = none := by kernel_rfl
theorem no_step (a : WAd) (r : V) : (wfs a r).lookup ("step" : Str) = none := by kernel_rfl
theorem no_told (a : WAd) (r : V) : (wfs a r).lookup ("told" : Str) = none := by kernel_rfl
theorem no_frames (a : WAd) (r : V) : (wfs a r).lookup ("frames" : Str) = none := by kernel_rfl
theorem no_answer (a : WAd) (r : V) : (wfs a r).lookup ("answer" : Str) = none := by kernel_rfl
/-! ### gone_back -/
def GonePost (K : PySem.W.Frag) (CF CW : Addr) (B H : Hp) (A : WAd) (dxw : Addr) (fns : List Fn) (n : Int) (pre : List V) (Q : VK) : Prop :=
  (pre = [] ∧ ∀ H', Kp [A.stack, A.w] H H' → H' A.stack = some (.lst []) → H' A.w = some (.ins CW dxw (wfs A (.int n))) → Q .non H') ∨
  ∃ (r : Fr) (l : Sets) (bx : Option Int) (k m : Nat), pre = [.ref r.f] ∧ FrAt CF H r ∧ SpotAt fns r.own r.spot l (.wait bx (k : Int)) ∧ BOk m r.kvs ∧ m ≤ 90 ∧ B r.f = none ∧ B r.b = none ∧
    ∀ H', Kp [A.stack, r.f, r.b] H H' → H' A.stack = some (.lst [.ref r.f]) → H' r.f = some (.ins CF r.dx (ffs r.own (k : Int) r.b)) → H' r.b = some (.dK (putO (setB r.kvs l) n bx)) → Q .non H'
def spGone (K : PySem.W.Frag) (CF CW : Addr) : Sp := fun vs H Q _ => ∃ (B : Hp) (A : WAd) (dxw : Addr) (fns : List Fn) (bs : List Int) (n : Int) (pre : List V) (y : V), vs = [.ref A.w, .int n] ∧ WBase K CW B H A dxw fns bs .non ∧ H A.stack = some (.lst (pre ++ [y])) ∧ B A.w = none ∧ B A.stack = none ∧ GonePost K CF CW B H A dxw fns n pre Q
theorem sc_gone : FnScope ["self", "number", "frame", "sets", "act"] ["self", "number"] (defScope s_gone_back) := ⟨rfl, rfl, rfl, by decide +kernel, rfl, by decide +kernel, by decide +kernel⟩
theorem ok_gone {f CF CW : Addr} {fd : FuncData} (F : Fun K "gone_back" "CodeWalker.gone_back" s_gone_back f fd) (T : Txt K mg aG aA) (CFp : CFt K CF) (C : CWt K CW) (m_settle : C8.Met P w K mg base 6 CF "settle" (spSettle K CF) []) (m_keep : C8.Met P w K mg base 1 CF "keep" (spKeep CF) []) :
    FnOk P w K mg base CX0 7 f fd ["self", "number"] (spGone K CF CW) := by
  have nd := sc_gone.nd
  refine F.ok sc_gone (fun vs H Q E h => ?_) (fun cdv Ar outer s H vs Q E hr h => ?_)
  · obtain ⟨_, _, _, _, _, _, _, _, rfl, _⟩ := h
    rfl
  have hu := hu_of hr
  obtain ⟨B, A, dxw, fns, bs, n, pre, y, rfl, hw, hst, nw, ns, post⟩ := h
  refine ⟨_, (pss_cons (ps_expr (pe_bm0 PySem.F.plainAttrs_list PySem.F.slot_list_pop PySem.F.type_list_pop mt_pop (pe_fld (pv 0) rfl)))
    (pss_cons (ps_if (pt_cmpR op_eq (pe_callB call_len_seq (by rfl) T.len_ (by decide +kernel) (pa_cons (pe_fld (pv 0) rfl) pa_nil)) pe_int (nomark _)) (pss_cons (ps_fld (pv 0) (pv 1) rfl) (pss_one (ps_ret pe_non))) pss_nil)
    (pss_cons (ps_set (i := 2) nd rfl (Or.inl rfl) (pe_ix ix_list (pe_fld (pv 0) rfl) (pe_un un_neg pe_int) (fun _ _ => rfl)))
    (pss_cons (ps_asg (pe_ix ix_list (pe_dget hu (pe_fld (pv 0) rfl) (pe_fld (pv 2) rfl) (fun _ _ => rfl)) (pe_fld (pv 2) rfl) (fun _ _ => rfl)) (pg_tup rfl (pgs_cons (pg_name (i := 3) nd rfl (Or.inl rfl)) (pgs_cons (pg_name (i := 4) nd rfl (Or.inl rfl)) pgs_nil))))
    (pss_cons (ps_expr (C8.pe_mt m_settle hr (by omega) (pv 2) (pa_cons (pv 3) pa_nil)))
    (pss_cons (ps_expr (C8.pe_mt m_keep hr (by omega) (pv 2) (pa_cons (pe_ix ix_tup (pv 4) pe_int (fun _ _ => rfl)) (pa_cons (pv 1) pa_nil))))
    (pss_cons (ps_fld (pv 2) (pe_ix ix_tup (pv 4) pe_int (fun _ _ => rfl)) rfl)
    (pss_one (ps_ret pe_non))))))))), ?_⟩
  have hws : A.w ≠ A.stack := ne_of hw.wa hst (by intro z; cases z)
  refine h_drop ?_
  refine ⟨_, rfl, A.w, CW, dxw, _, _, rfl, hw.wa, C.cl, C.n8, get_stack _ _, .inl ⟨rfl, _, SqL.of hst⟩, A.stack, _, y, rfl, rfl, hst, (by rw [List.length_append, List.length_singleton, Nat.add_sub_cancel, List.getElem?_append_right (Nat.le_refl _), Nat.sub_self]; rfl), ?_⟩
  rw [List.dropLast_concat]
  obtain ⟨H1, eH1⟩ : ∃ H1, H1 = upd H A.stack (.lst pre) := ⟨_, rfl⟩
  rw [← eH1]
  have hst1 : H1 A.stack = some (.lst pre) := by
    rw [eH1]
    exact upd_same
  have k1 : Keep A.stack H H1 := by
    rw [eH1]
    exact .upd
  have hw1 : H1 A.w = some (.ins CW dxw (wfs A .non)) := k1 _ _ hw.wa hws
  refine h_if ?_
  refine ⟨_, rfl, A.w, CW, dxw, _, _, rfl, hw1, C.cl, C.n8, get_stack _ _, A.stack, pre, rfl, .inl (SqL.of hst1), rfl, ?_⟩
  rcases post with ⟨rfl, q⟩ | ⟨r, l, bx, k, m, rfl, hf, hsp, ok, hm, nf, nb, q⟩
  · refine ⟨_, rfl, ?_⟩
    refine iteT ?_
    refine h_fld ?_
    refine ⟨_, rfl, _, rfl, A.w, CW, dxw, _, rfl, hw1, C.cl, C.n4, (by show 8 < 1000; decide), ?_⟩
    rw [wfs_res]
    exact q _ ((Kp.keep k1 (by simp)).trans (.upd (by simp))) (by rw [upd_ne hws.symm]; exact hst1) upd_same
  refine ⟨_, rfl, ?_⟩
  refine iteF (h_next ?_)
  have hb1 : WBase K CW B H1 A dxw fns bs .non := ⟨k1.base hw.bh ns, hw1, hw.stat⟩
  have hfs : r.f ≠ A.stack := ne_of hf.1 hst (by intro z; cases z)
  have hbs : r.b ≠ A.stack := ne_of hf.2 hst (by intro z; cases z)
  have hfb : r.f ≠ r.b := ne_of hf.1 hf.2 (by intro z; cases z)
  have hbw : r.b ≠ A.w := ne_of hf.2 hw.wa (by intro z; cases z)
  have hf1 : FrAt CF H1 r := ⟨k1 _ _ hf.1 hfs, k1 _ _ hf.2 hbs⟩
  obtain ⟨p, xs, pu, vs, va, g1, g2, g3, g4, ds, da⟩ := spot_get hb1 hsp
  refine h_asg ?_
  refine ⟨_, rfl, A.w, CW, dxw, _, _, rfl, hw1, C.cl, C.n8, get_stack _ _, _, rfl, A.stack, _, _, .ref r.f, rfl, rfl, SqL.of hst1, rfl, ?_⟩
  refine h_asgG ?_
  refine ⟨_, rfl, A.w, CW, dxw, _, _, rfl, hw1, C.cl, C.n6, get_wspots _ _, _, rfl, r.f, CF, r.dx, _, _, rfl, hf1.1, CFp.cl, CFp.nO, ffs_owner _ _ _, A.spots, _, rfl, g1, _, rfl, r.f, CF, r.dx, _, _, rfl, hf1.1, CFp.cl, CFp.nS, ffs_spot _ _ _, p, xs, _, _, rfl, rfl, g2, g3, ?_⟩
  refine ⟨pu, _, rfl, g4, rfl, _, _, rfl, _, _, rfl, rfl, ?_⟩
  refine h_drop ?_
  refine ⟨_, rfl, r.f, r.dx, _, rfl, hf1.1, ffs_settle _ _ _, _, rfl, ?_⟩
  refine ⟨B, r.f, r.dx, r.b, r.own, r.spot, r.kvs, m, l, vs, rfl, hb1.bh, hf1.1, hf1.2, ok, by omega, ds, hsp.ok, hsp.len, nb, fun H2 k2 hb2 => ?_⟩
  have hf2 := k2 _ _ hf1.1 hfb
  have bh2 : Same B H2 := k2.base hb1.bh nb
  have ok2 := setB_ok ok hsp.ok
  have hl2 : (setB r.kvs l).length ≤ 1000 := by
    have := ok2.len
    have := hsp.len
    omega
  obtain ⟨p1, x1, u1, rfl, q1, a1, d1⟩ := act_at (i := 1) da bh2 (x := optD bx) rfl
  have hu1 : u1 = optV bx := by
    cases bx <;> cases d1 <;> rfl
  subst hu1
  refine h_drop ?_
  refine ⟨_, rfl, r.f, r.dx, _, rfl, hf2, ffs_keep _ _ _, _, rfl, p1, x1, _, _, rfl, rfl, q1, a1, _, rfl, ?_⟩
  refine ⟨r.f, r.dx, r.b, r.own, r.spot, _, bx, n, rfl, hf2, hb2, hl2, ?_⟩
  have k3 : Keep r.b H2 (keptH H2 r.b (setB r.kvs l) n bx) := kept_keep bx
  have hb3 := kept_b (n := n) hb2 bx
  generalize keptH H2 r.b (setB r.kvs l) n bx = H3 at k3 hb3 ⊢
  have hf3 := k3 _ _ hf2 hfb
  have bh3 : Same B H3 := k3.base bh2 nb
  obtain ⟨p2, x2, u2, e2, q2, a2, d2⟩ := act_at (i := 2) da bh3 (x := .int (k : Int)) rfl
  cases e2
  cases d2
  refine h_fld ?_
  refine ⟨_, rfl, p1, x2, _, _, rfl, rfl, q2, a2, _, rfl, r.f, CF, r.dx, _, rfl, hf3, CFp.cl, CFp.nS, (by show 3 < 1000; decide), ?_⟩
  rw [ffs_put]
  refine q _ ((((Kp.keep k1 (by simp)).trans (.keep k2 (by simp))).trans (.keep k3 (by simp))).trans (.upd (by simp))) ?_ upd_same (by rw [upd_ne hfb.symm]; exact hb3)
  rw [upd_ne hfs.symm]
  exact k3 _ _ (k2 _ _ hst1 hbs.symm) hbs.symm
/-! ### advance -/
def AdvPost (K : PySem.W.Frag) (CF CW : Addr) (B H : Hp) (A : WAd) (dxw : Addr) (fns : List Fn) (pre : List V) (r : Fr) (l : Sets) (Q : VK) : Act → Prop
  | .go k => ∀ H', Kp [r.f, r.b] H H' → H' r.f = some (.ins CF r.dx (ffs r.own k r.b)) → H' r.b = some (.dK (setB r.kvs l)) → Q .non H'
  | .call g es k => ∀ H' f b dx, Kp [A.stack, r.f, r.b] H H' → H f = none → H b = none → H' A.stack = some (.lst (pre ++ [.ref r.f] ++ [.ref f])) → H' r.f = some (.ins CF r.dx (ffs r.own k r.b)) → H' r.b = some (.dK (setB r.kvs l)) →
      H' f = some (.ins CF dx (ffs g 0 b)) → H' b = some (.dK (mkB (es.map (wr r.kvs)))) → Q .non H'
  | .back t => (pre = [] ∧ ∀ H', Kp [A.stack, A.w, r.b] H H' → H' A.stack = some (.lst []) → H' A.w = some (.ins CW dxw (wfs A (.int (wr r.kvs t)))) → Q .non H') ∨
    ∃ (r1 : Fr) (l1 : Sets) (bx : Option Int) (k m1 : Nat), pre = [.ref r1.f] ∧ FrAt CF H r1 ∧ r1.b ≠ r.b ∧ SpotAt fns r1.own r1.spot l1 (.wait bx (k : Int)) ∧ BOk m1 r1.kvs ∧ m1 ≤ 90 ∧ B r1.f = none ∧ B r1.b = none ∧
      ∀ H', Kp [A.stack, r1.f, r1.b, r.b] H H' → H' A.stack = some (.lst [.ref r1.f]) → H' r1.f = some (.ins CF r1.dx (ffs r1.own (k : Int) r1.b)) → H' r1.b = some (.dK (putO (setB r1.kvs l1) (wr r.kvs t) bx)) → Q .non H'
  | .wait _ _ => False
def spAdv (K : PySem.W.Frag) (CF CW : Addr) : Sp := fun vs H Q _ => ∃ (B : Hp) (A : WAd) (dxw : Addr) (fns : List Fn) (bs : List Int) (pre : List V) (r : Fr) (l : Sets) (act : Act) (m : Nat), vs = [.ref A.w] ∧ WBase K CW B H A dxw fns bs .non ∧ H A.stack = some (.lst (pre ++ [.ref r.f])) ∧ pre.length ≤ 10 ∧
  FrAt CF H r ∧ SpotAt fns r.own r.spot l act ∧ BOk m r.kvs ∧ m ≤ 90 ∧ B A.w = none ∧ B A.stack = none ∧ B r.f = none ∧ B r.b = none ∧ AdvPost K CF CW B H A dxw fns pre r l Q act
theorem sc_adv : FnScope ["self", "frame", "sets", "act", "numbers"] ["self"] (defScope s_advance) := ⟨rfl, rfl, rfl, by decide +kernel, rfl, by decide +kernel, by decide +kernel⟩
theorem ok_adv {f CF CW : Addr} {fd : FuncData} (F : Fun K "advance" "CodeWalker.advance" s_advance f fd) (T : Txt K mg aG aA) (CFp : CFt K CF) (C : CWt K CW) (c_asked : C8.Cal P w K mg base 1 "asked" (spD K R_asked) []) (m_worths : C8.Met P w K mg base 5 CF "worths" (spS K (R_worths CF)) [])
    (m_settle : C8.Met P w K mg base 6 CF "settle" (spSettle K CF) []) (m_gone_back : C8.Met P w K mg base 7 CW "gone_back" (spGone K CF CW) []) (m_done : C8.Met P w K mg base 1 CW "done" (spDone K CW) []) (k_CodeFrame : C8.Mak P w K mg base 1 "CodeFrame" CF (spCf K CF) []) :
    FnOk P w K mg base CX0 8 f fd ["self"] (spAdv K CF CW) := by
  have nd := sc_adv.nd
  refine F.ok sc_adv (fun vs H Q E h => ?_) (fun cdv Ar outer s H vs Q E hr h => ?_)
  · obtain ⟨_, _, _, _, _, _, _, _, _, _, rfl, _⟩ := h
    rfl
  have hu := hu_of hr
  obtain ⟨B, A, dxw, fns, bs, pre, r, l, act, m, rfl, hw, hst, hpre, hf, hsp, ok, hm, nw, ns, nf, nb, post⟩ := h
  refine ⟨_, (pss_cons (ps_set (i := 1) nd rfl (Or.inl rfl) (pe_ix ix_list (pe_fld (pv 0) rfl) (pe_un un_neg pe_int) (fun _ _ => rfl)))
    (pss_cons (ps_asg (pe_ix ix_list (pe_dget hu (pe_fld (pv 0) rfl) (pe_fld (pv 1) rfl) (fun _ _ => rfl)) (pe_fld (pv 1) rfl) (fun _ _ => rfl)) (pg_tup rfl (pgs_cons (pg_name (i := 2) nd rfl (Or.inl rfl)) (pgs_cons (pg_name (i := 3) nd rfl (Or.inl rfl)) pgs_nil))))
    (pss_cons (ps_set (i := 4) nd rfl (Or.inl rfl) (C8.pe_mt m_worths hr (by omega) (pv 1) (pa_cons (C8.pe_c c_asked hr (by omega) (by rfl) (pa_cons (pv 3) pa_nil)) pa_nil)))
    (pss_cons (ps_expr (C8.pe_mt m_settle hr (by omega) (pv 1) (pa_cons (pv 2) pa_nil)))
    (pss_cons (ps_if (pt_cmpR op_eq (pe_ix ix_tup (pv 3) pe_int (fun _ _ => rfl)) pe_str (nomark _)) (pss_cons (ps_expr (C8.pe_mt m_gone_back hr (by omega) (pv 0) (pa_cons (pe_ix ix_list (pv 4) pe_int (fun _ _ => rfl)) pa_nil))) (pss_one (ps_ret pe_non))) pss_nil)
    (pss_cons (ps_if (pt_cmpR op_eq (pe_ix ix_tup (pv 3) pe_int (fun _ _ => rfl)) pe_str (nomark _)) (pss_one (ps_expr (pe_bm PySem.F.plainAttrs_list PySem.F.slot_list_append PySem.F.type_list_append mt_append (pe_fld (pv 0) rfl) (pa_cons (C8.pe_mk k_CodeFrame hr (by omega) (by rfl) (pa_cons (pe_ix ix_tup (pv 3) pe_int (fun _ _ => rfl)) (pa_cons (pv 4) pa_nil))) pa_nil)))) pss_nil)
    (pss_cons (ps_fld (pv 1) (pe_ix ix_tup (pv 3) (pe_un un_neg pe_int) (fun _ _ => rfl)) rfl)
    (pss_cons (ps_if (PW.pt (pw_and (pt_cmpR op_eq (pe_ix ix_tup (pv 3) pe_int (fun _ _ => rfl)) pe_str (nomark _)) (pw_and1 (pt_cmpR op_ne (pe_ix ix_list (pv 4) pe_int (fun _ _ => rfl)) pe_int (nomark _))))) pss_never pss_nil)
    (pss_one (ps_ret (C8.pe_mt m_done hr (by omega) (pv 0) (pa_cons (pv 1) (pa_cons (pv 3) (pa_cons (pv 4) pa_nil)))))))))))))), ?_⟩
  have hws : A.w ≠ A.stack := ne_of hw.wa hst (by intro z; cases z)
  have hfs : r.f ≠ A.stack := ne_of hf.1 hst (by intro z; cases z)
  have hbs : r.b ≠ A.stack := ne_of hf.2 hst (by intro z; cases z)
  have hfb : r.f ≠ r.b := ne_of hf.1 hf.2 (by intro z; cases z)
  have hbw : r.b ≠ A.w := ne_of hf.2 hw.wa (by intro z; cases z)
  have hfw : r.f ≠ A.w := ne_of hf.1 hw.wa (by intro z; cases z)
  obtain ⟨p, xs, pu, vs, va, g1, g2, g3, g4, ds, da⟩ := spot_get hw hsp
  refine h_asg ?_
  refine ⟨_, rfl, A.w, CW, dxw, _, _, rfl, hw.wa, C.cl, C.n8, get_stack _ _, _, rfl, A.stack, _, _, .ref r.f, rfl, rfl, SqL.of hst, atI_last _ _, ?_⟩
  refine h_asgG ?_
  refine ⟨_, rfl, A.w, CW, dxw, _, _, rfl, hw.wa, C.cl, C.n6, get_wspots _ _, _, rfl, r.f, CF, r.dx, _, _, rfl, hf.1, CFp.cl, CFp.nO, ffs_owner _ _ _, A.spots, _, rfl, g1, _, rfl, r.f, CF, r.dx, _, _, rfl, hf.1, CFp.cl, CFp.nS, ffs_spot _ _ _, p, xs, _, _, rfl, rfl, g2, g3, ?_⟩
  refine ⟨pu, _, rfl, g4, rfl, _, _, rfl, _, _, rfl, rfl, ?_⟩
  refine h_asg ?_
  refine ⟨_, rfl, r.f, r.dx, _, rfl, hf.1, ffs_worths _ _ _, ?_⟩
  have s0 : S K B H B H [some (.ref A.w), some (.ref r.f), some vs, some va, none] [.raw (.ref A.w), .raw (.ref r.f), .val (setsD l), .val (actD act), .no] := start_SS (N := ["self", "frame", "sets", "act", "numbers"]) (vs := [.ref A.w, .ref r.f, vs, va]) hw.bh (.rw_ (.rw_ (.vl ds (.vl da .nil))))
  refine va_cons (ve_call (va_cons (ve_var (i := 3) rfl) va_nil) ⟨act, rfl, hsp.alen, rfl⟩) va_nil B H B H _ s0 _ fun vs1 B1 H1 t1 d1 => ?_
  cases d1 with
  | cons d1 d2 =>
  cases d2
  refine ⟨B1, [.fact (FbF CF r.kvs), .val (.list (act.asks.map rkD))], .list (act.asks.map fun t => .int (wr r.kvs t)), t1.bh, .ft ⟨r.f, r.dx, r.b, r.own, r.spot, rfl, t1.h _ _ hf.1, t1.h _ _ hf.2⟩ (FbF.keeps CF r.kvs) (.vl d1 .nil), ⟨r.kvs, m, act.asks, rfl, ok, hsp.alen, hsp.asks, rfl⟩, fun vn B2 H2 t2 dn => ?_⟩
  have t12 : Tr B H B2 H2 := t1.trans t2
  have hw2 : WBase K CW B2 H2 A dxw fns bs .non := ⟨t12.bh, t12.h _ _ hw.wa, hw.stat.same t12.b⟩
  have nw2 := t12.out nw hw.wa
  have ns2 := t12.out ns hst
  have nf2 := t12.out nf hf.1
  have nb2 := t12.out nb hf.2
  have ds2 := dp_same t12.b ds
  have da2 := dp_same t12.b da
  refine h_drop ?_
  refine ⟨_, rfl, r.f, r.dx, _, rfl, t12.h _ _ hf.1, ffs_settle _ _ _, _, rfl, ?_⟩
  refine ⟨B2, r.f, r.dx, r.b, r.own, r.spot, r.kvs, m, l, vs, rfl, t12.bh, t12.h _ _ hf.1, t12.h _ _ hf.2, ok, by omega, ds2, hsp.ok, hsp.len, nb2, fun H3 k3 hb3 => ?_⟩
  have bh3 : Same B2 H3 := k3.base t12.bh nb2
  have kk3 : Kp [r.b] H H3 := (Kp.of t12.h).trans (.keep k3 (by simp))
  have hf3 : H3 r.f = some (.ins CF r.dx (ffs r.own r.spot r.b)) := kk3 _ _ hf.1 (by simpa using hfb)
  have hw3 : H3 A.w = some (.ins CW dxw (wfs A .non)) := kk3 _ _ hw.wa (by simpa using hbw.symm)
  have hst3 : H3 A.stack = some (.lst (pre ++ [.ref r.f])) := kk3 _ _ hst (by simpa using hbs.symm)
  refine h_if (act_is da2 bh3 rfl ?_)
  cases act with
  | wait bx k => exact post.elim
  | back t =>
    refine iteT ?_
    obtain ⟨p5, x5, u5, rfl, q5, a5, d5⟩ := lst_atI (i := 0) dn bh3 (x := .int (wr r.kvs t)) rfl
    cases d5
    refine h_drop ?_
    refine ⟨_, rfl, A.w, dxw, _, rfl, hw3, no_gone _ _, _, rfl, p5, x5, _, _, rfl, rfl, q5, a5, ?_⟩
    refine ⟨B2, A, dxw, fns, bs, wr r.kvs t, pre, .ref r.f, rfl, ⟨bh3, hw3, hw2.stat⟩, hst3, nw2, ns2, ?_⟩
    rcases post with ⟨hp, q⟩ | ⟨r1, l1, bx, k, m1, hp, hf1, hne, hsp1, ok1, hm1, nf1, nb1, q⟩
    · refine .inl ⟨hp, fun H4 k4 e1 e2 => q H4 ((kk3.mono (by simp)).trans (k4.mono (by simp))) e1 e2⟩
    · have h1f : r1.f ≠ r.b := ne_of hf1.1 hf.2 (by intro z; cases z)
      refine .inr ⟨r1, l1, bx, k, m1, hp, ⟨kk3 _ _ hf1.1 (by simpa using h1f), kk3 _ _ hf1.2 (by simpa using hne)⟩, hsp1, ok1, hm1, t12.out nf1 hf1.1, t12.out nb1 hf1.2, fun H4 k4 e1 e2 e3 => q H4 ((kk3.mono (by simp)).trans (k4.mono (by simp))) e1 e2 e3⟩
  | go k =>
    rw [show decide ((Act.go k).kind = "back") = false from by show decide (("go" : Str) = "back") = false; decide +kernel]
    refine iteF (h_next ?_)
    refine h_if (act_is da2 bh3 rfl ?_)
    rw [show decide ((Act.go k).kind = "call") = false from by show decide (("go" : Str) = "call") = false; decide +kernel]
    refine iteF (h_next ?_)
    obtain ⟨p2, x2, u2, e2, q2, a2, d2⟩ := act_at (i := -1) da2 bh3 (x := .int k) rfl
    cases d2
    refine h_fld ?_
    refine ⟨_, rfl, _, rfl, p2, x2, _, _, e2, rfl, q2, a2, _, rfl, r.f, CF, r.dx, _, rfl, hf3, CFp.cl, CFp.nS, (by show 3 < 1000; decide), ?_⟩
    rw [ffs_put]
    have bh9 : Same B2 (upd H3 r.f (.ins CF r.dx (ffs r.own k r.b))) := Keep.base .upd bh3 nf2
    refine h_if (act_is da2 bh9 rfl ?_)
    rw [show decide ((Act.go k).kind = "if") = false from by show decide (("go" : Str) = "if") = false; decide +kernel]
    refine iteF ?_
    refine iteF (h_next ?_)
    refine ⟨_, rfl, A.w, dxw, _, rfl, (by rw [upd_ne hfw.symm]; exact hw3), no_done _ _, _, rfl, _, rfl, _, rfl, B2, _, _, _, _, (Act.go k), rfl, bh9, da2, .inl rfl, ?_⟩
    exact post _ ((kk3.mono (by simp)).trans (.upd (by simp))) upd_same (by rw [upd_ne hfb.symm]; exact hb3)
  | call g es k =>
    rw [show decide ((Act.call g es k).kind = "back") = false from by show decide (("call" : Str) = "back") = false; decide +kernel]
    refine iteF (h_next ?_)
    refine h_if (act_is da2 bh3 rfl ?_)
    rw [show decide ((Act.call g es k).kind = "call") = true from by show decide (("call" : Str) = "call") = true; decide +kernel]
    refine iteT (h_drop1 ?_)
    refine ⟨_, rfl, A.w, CW, dxw, _, _, rfl, hw3, C.cl, C.n8, get_stack _ _, .inl ⟨rfl, _, SqL.of hst3⟩, ?_⟩
    refine h_make (C := CF) ?_
    obtain ⟨p6, x6, u6, e6, q6, a6, d6⟩ := act_at (i := 1) da2 bh3 (x := .str g) rfl
    cases d6
    refine ⟨_, rfl, p6, x6, _, _, e6, rfl, q6, a6, _, rfl, ?_⟩
    intro fr dfr hfr hdfr hne2
    have hB4 : Same B2 (upd (upd H3 dfr (.own fr)) fr (.ins CF dfr [])) := same_upd (same_upd bh3 (bh3.free hdfr)) (bh3.free hfr)
    have hrng : ∀ x ∈ es.map (wr r.kvs), Rng x := fun x hx => by
      obtain ⟨t, ht, rfl⟩ := List.mem_map.mp hx
      exact wr_rng ok t (hsp.asks t ht).1
    have dn2 : Dp K B2 vn (.list ((es.map (wr r.kvs)).map .int)) := by
      rw [List.map_map]
      exact dn
    refine ⟨B2, fr, dfr, g, es.map (wr r.kvs), vn, rfl, hB4, bh3.free hfr, upd_same, dn2, (by rw [List.length_map]; exact hsp.alen), hrng, fun H4 b4 hb40 k4 hf4 hb4 => ⟨rfl, ?_⟩⟩
    have b4f : b4 ≠ fr := fun e => by
      rw [e, upd_same] at hb40
      cases hb40
    have b4d : b4 ≠ dfr := fun e => by
      rw [e, upd_ne hne2, upd_same] at hb40
      cases hb40
    have h3b4 : H3 b4 = none := by
      rw [upd_ne b4f, upd_ne b4d] at hb40
      exact hb40
    have old : ∀ a, H3 a = none → H a = none := fun a h => by
      cases e : H a with
      | none => rfl
      | some o =>
        by_cases z : a = r.b
        · rw [z, hb3] at h
          cases h
        · rw [kk3 a o e (by simpa using z)] at h
          cases h
    have sm : ∀ a o, H3 a = some o → H4 a = some o := fun a o h => k4 a o (by rw [upd_ne (ne_of_none h hfr), upd_ne (ne_of_none h hdfr)]; exact h) (ne_of_none h hfr)
    refine ⟨A.stack, _, .ref fr, rfl, rfl, sm _ _ hst3, (by rw [List.length_append, List.length_singleton]; exact small1000 (by omega)), ?_⟩
    obtain ⟨H5, eH5⟩ : ∃ H5, H5 = upd H4 A.stack (.lst (pre ++ [.ref r.f] ++ [.ref fr])) := ⟨_, rfl⟩
    have k5 : Keep A.stack H4 H5 := by
      rw [eH5]
      exact .upd
    have hst5 : H5 A.stack = some (.lst (pre ++ [.ref r.f] ++ [.ref fr])) := by
      rw [eH5]
      exact upd_same
    rw [← eH5]
    have bh4 : Same B2 H4 := fun a o h => sm a o (bh3 a o h)
    have bh5 : Same B2 H5 := k5.base bh4 ns2
    have hf5 : H5 r.f = some (.ins CF r.dx (ffs r.own r.spot r.b)) := k5 _ _ (sm _ _ hf3) hfs
    have hw5 : H5 A.w = some (.ins CW dxw (wfs A .non)) := k5 _ _ (sm _ _ hw3) hws
    have hb5 : H5 r.b = some (.dK (setB r.kvs l)) := k5 _ _ (sm _ _ hb3) hbs
    have frs_ : fr ≠ A.stack := (ne_of_none hst3 hfr).symm
    have b4s : b4 ≠ A.stack := (ne_of_none hst3 h3b4).symm
    have frf : fr ≠ r.f := (ne_of_none hf3 hfr).symm
    have b4rf : b4 ≠ r.f := (ne_of_none hf3 h3b4).symm
    have hfr5 : H5 fr = some (.ins CF dfr (ffs g 0 b4)) := k5 _ _ hf4 frs_
    have hb45 : H5 b4 = some (.dK (mkB (es.map (wr r.kvs)))) := k5 _ _ hb4 b4s
    obtain ⟨p2, x2, u2, e2, q2, a2, d2⟩ := act_at (i := -1) da2 bh5 (x := .int k) rfl
    cases d2
    refine h_fld ?_
    refine ⟨_, rfl, _, rfl, p2, x2, _, _, e2, rfl, q2, a2, _, rfl, r.f, CF, r.dx, _, rfl, hf5, CFp.cl, CFp.nS, (by show 3 < 1000; decide), ?_⟩
    rw [ffs_put]
    have bh9 : Same B2 (upd H5 r.f (.ins CF r.dx (ffs r.own k r.b))) := Keep.base .upd bh5 nf2
    refine h_if (act_is da2 bh9 rfl ?_)
    rw [show decide ((Act.call g es k).kind = "if") = false from by show decide (("call" : Str) = "if") = false; decide +kernel]
    refine iteF ?_
    refine iteF (h_next ?_)
    refine ⟨_, rfl, A.w, dxw, _, rfl, (by rw [upd_ne hfw.symm]; exact hw5), no_done _ _, _, rfl, _, rfl, _, rfl, B2, _, _, _, _, (Act.call g es k), rfl, bh9, da2, .inr rfl, ?_⟩
    exact post _ fr b4 dfr (((kk3.mono (by simp)).trans (.of sm)).trans ((Kp.keep k5 (by simp)).trans (.upd (by simp)))) (old _ hfr) (old _ h3b4) (by rw [upd_ne hfs.symm]; exact hst5) upd_same (by rw [upd_ne hfb.symm]; exact hb5) (by rw [upd_ne frf]; exact hfr5) (by rw [upd_ne b4rf]; exact hb45)
/-! ### step -/
def spStep (K : PySem.W.Frag) (CF CW : Addr) : Sp := spAdv K CF CW
theorem sc_step : FnScope ["self"] ["self"] (defScope s_step) := ⟨rfl, rfl, rfl, by decide +kernel, rfl, by decide +kernel, by decide +kernel⟩
theorem ok_step {f CF CW : Addr} {fd : FuncData} (F : Fun K "step" "Walker.step" s_step f fd) (T : Txt K mg aG aA) (CFp : CFt K CF) (C : CWt K CW) (m_ended : C8.Met P w K mg base 1 CW "ended" (spEnded CW) []) (m_advance : C8.Met P w K mg base 8 CW "advance" (spAdv K CF CW) []) :
    FnOk P w K mg base CX0 9 f fd ["self"] (spStep K CF CW) := by
  have nd := sc_step.nd
  refine F.ok sc_step (fun vs H Q E h => ?_) (fun cdv Ar outer s H vs Q E hr h => ?_)
  · obtain ⟨_, _, _, _, _, _, _, _, _, _, rfl, _⟩ := h
    rfl
  have h' := h
  obtain ⟨B, A, dxw, fns, bs, pre, r, l, act, m, rfl, hw, _⟩ := h
  refine ⟨_, (pss_cons (ps_if (pt_val (C8.pe_mt0 m_ended hr (by omega) (pv 0))) (pss_one ps_never) pss_nil)
    (pss_one (ps_ret (C8.pe_mt0 m_advance hr (by omega) (pv 0))))), ?_⟩
  refine h_if ?_
  refine ⟨_, rfl, A.w, dxw, _, rfl, hw.wa, no_ended _ _, A, dxw, _, rfl, hw.wa, false, rfl, ?_⟩
  refine iteF (h_next ?_)
  exact ⟨_, rfl, A.w, dxw, _, rfl, hw.wa, no_advance _ _, h'⟩
end
end K37
/-! The law: does the walker stand as it should. -/
namespace K37
open PySem L2
section
variable {P : Program} {w : World} {K : PySem.W.Frag} {mg : Str → Option Value} {base : Heap} {aG aA : Addr} {δ δ1 : List Slot} {ta tb te tx ty tk tv : TE}
theorem S.raw {B0 H0 B H : Hp} {σ : L2.St} (s : S K B0 H0 B H σ δ) (i : Nat) (v : V) : S K B0 H0 B H (σ.set i (some v)) (δ.set i (.raw v)) := s.set i rfl
theorem h_if1 {c : TT} {tu tw : TS} {D : Ends} {σ : L2.St} {H : Hp} (h : c σ H fun b H1 => if b = true then tu D σ H1 else tw D σ H1) : tIfS c tu tw D σ H := h
theorem h_or {c u : TT} {σ : L2.St} {H : Hp} {Q : Bool → Hp → Prop} (h : c σ H fun b H1 => if b = true then Q true H1 else u σ H1 Q) : tOr c u σ H Q := h
theorem getI {ds : List PyData} {i : Nat} {d : PyData} (h : ds[i]? = some d) : atI ds (i : Int) = some d := atI_nat h
theorem chain_fr (frs : List Fr) : (frs.map fun r => chainD r.own r.row) = (frs.map fun r => (r.own, r.row)).map frD := by
  rw [List.map_map]
  rfl
/-- each frame, by its names and the law's own boxes -/
structure Fits (H : Hp) (fns : List Fn) (bs : List Int) (nss : List (List Str)) (nows : List Addr) (i : Nat) (r : Fr) : Prop where
  ex : ∃ (fn : Fn) (now : Addr) (m : Nat), fn ∈ fns ∧ fn.own = r.own ∧ fn.names.Nodup ∧ nss[i]? = some fn.names ∧ fn.names.length = bs.length ∧ nows[i]? = some now ∧ H now = some (.dK r.kvs) ∧ BOk m r.kvs
def spStands (K : PySem.W.Frag) (CF CW : Addr) : Sp := fun vs H Q _ => ∃ (B : Hp) (A : WAd) (dxw : Addr) (fns : List Fn) (bs : List Int) (res : V) (frs : List Fr) (nss : List (List Str)) (vd vn vb : V) (nw : Addr) (nows : List Addr), vs = [.ref A.w, vd, vn, vb, .ref nw] ∧ WSt K CF CW B H A dxw fns bs res frs ∧
  Dp K B vd (toldD frs) ∧ Dp K B vn (.list (nss.map fun l => .list (l.map .str))) ∧ Dp K B vb (.list (bs.map .int)) ∧ SqL K H nw (nows.map .ref) ∧ frs.length ≤ 10 ∧ (∀ r ∈ frs, StrOk r.own) ∧ bs.length ≤ 100 ∧ (∀ i r, frs[i]? = some r → Fits H fns bs nss nows i r) ∧ ∀ H', Same H H' → Q (.bl true) H'
theorem sc_lstands : FnScope ["_law_walker", "_law_due", "_law_names_here", "_law_boxes", "_law_nows", "_law_level", "_law_name", "_law_box", "_law_found"] ["_law_walker", "_law_due", "_law_names_here", "_law_boxes", "_law_nows"] (defScope s_lstands) := ⟨rfl, rfl, rfl, by decide +kernel, rfl, by decide +kernel, by decide +kernel⟩
theorem ok_lstands {f CF CW : Addr} {fd : FuncData} (F : Fun K "_law_stands" "_law_stands" s_lstands f fd) (T : Txt K mg aG aA) (CFp : CFt K CF) (C : CWt K CW) (c_lframes : C8.Cal P w K mg base 2 "_law_frames" (spD K R_frames) []) (c_lwhole : C8.Cal P w K mg base 1 "_law_whole" (spD K R_whole) [])
    (m_frames : C8.Met P w K mg base 2 CW "frames" (spFrames K CF CW) []) (m_told : C8.Met P w K mg base 5 CW "told" (spTold K CF CW) []) :
    FnOk P w K mg base CX0 6 f fd ["_law_walker", "_law_due", "_law_names_here", "_law_boxes", "_law_nows"] (spStands K CF CW) := by
  have nd := sc_lstands.nd
  refine F.ok sc_lstands (fun vs H Q E h => ?_) (fun cdv Ar outer s H vs Q E hr h => ?_)
  · obtain ⟨_, _, _, _, _, _, _, _, _, _, _, _, _, rfl, _⟩ := h
    rfl
  have hu := hu_of hr
  obtain ⟨B, A, dxw, fns, bs, res, frs, nss, vd, vn, vb, nw, nows, rfl, hw, dd, dn, db, sn, hl, hso, hbl, fit, q⟩ := h
  refine ⟨_, (pss_cons (ps_if (pt_not (pt_val (C8.pe_c c_lframes hr (by omega) (by rfl) (pa_cons (C8.pe_mt0 m_frames hr (by omega) (pv 0)) (pa_cons (pv 1) pa_nil))))) (pss_one (ps_ret pe_bl)) pss_nil)
    (pss_cons (ps_for PassesOwn.never rfl (pi_range1 (by rfl) T.range_ (pa_cons (pe_callB call_len_seq (by rfl) T.len_ (by decide +kernel) (pa_cons (pv 1) pa_nil)) pa_nil)) (pg_name (i := 5) nd rfl (Or.inl rfl)) (pss_one (ps_for PassesOwn.never rfl (pi_zip (by rfl) T.zip_ (pa_cons (pe_ix ix_list (pv 2) (pv 5) (fun _ _ => rfl)) (pa_cons (pv 3) pa_nil))) (pg_tup rfl (pgs_cons (pg_name (i := 6) nd rfl (Or.inl rfl)) (pgs_cons (pg_name (i := 7) nd rfl (Or.inl rfl)) pgs_nil))) (pss_cons (ps_set (i := 8) nd rfl (Or.inl rfl) (C8.pe_mt m_told hr (by omega) (pv 0) (pa_cons (pv 5) (pa_cons (pv 6) pa_nil)))) (pss_one (ps_if (PW.pt (pw_or (pt_not (pt_val (C8.pe_c c_lwhole hr (by omega) (by rfl) (pa_cons (pv 8) pa_nil)))) (pw_or1 (pt_cmpR op_ne (pv 8) (pe_dget2 hu (pe_ix ix_list (pv 4) (pv 5) (fun _ _ => rfl)) (pv 7) pe_int (by exact ⟨rfl, rfl, rfl, rfl⟩)) (nomark _))))) (pss_one (ps_ret pe_bl)) pss_nil))))))
    (pss_one (ps_ret pe_bl)))), ?_⟩
  have s0 : S K B H B H (L2.start ["_law_walker", "_law_due", "_law_names_here", "_law_boxes", "_law_nows", "_law_level", "_law_name", "_law_box", "_law_found"] [.ref A.w, vd, vn, vb, .ref nw]) [.raw (.ref A.w), .val (toldD frs), .val (.list (nss.map fun l => .list (l.map .str))), .val (.list (bs.map .int)), .raw (.ref nw), .no, .no, .no, .no] := start_SS hw.base.bh (.rw_ (.vl dd (.vl dn (.vl db (.rw_ .nil)))))
  generalize L2.start ["_law_walker", "_law_due", "_law_names_here", "_law_boxes", "_law_nows", "_law_level", "_law_name", "_law_box", "_law_found"] [.ref A.w, vd, vn, vb, .ref nw] = σ0 at s0 ⊢
  refine h_if ?_
  refine ⟨_, s0.at_ 0 (.raw (.ref A.w)) rfl, A.w, dxw, _, rfl, hw.base.wa, no_frames _ _, B, A, dxw, fns, bs, res, frs, rfl, hw, by omega, fun vf B1 H1 t1 df => ?_⟩
  obtain ⟨vd', ed, dd'⟩ := (s0.step t1).at_ 1 (.val (toldD frs)) rfl
  refine ⟨_, ed, B1, [toldD frs, toldD frs], .bool true, t1.bh, .cons df (.cons dd' .nil), ⟨frs.map fun r => (r.own, r.row), by unfold toldD; rw [chain_fr], fun p hp => ?_, rfl⟩, fun v2 B2 H2 t2 d2 => ?_⟩
  · obtain ⟨r, hr, rfl⟩ := List.mem_map.mp hp
    exact hso r hr
  cases d2
  refine ⟨true, rfl, ?_⟩
  refine iteF (h_next ?_)
  have t12 := t1.trans t2
  have s2 := s0.step t12
  refine h_seq ?_
  refine vi_range (K := K) (n := frs.length) (va_cons (ve_eq (ve_cb (va_cons (ve_var (i := 1) rfl) va_nil) rc_len) (by rw [List.length_map])) va_nil) (by omega) B H B2 H2 σ0 s2 _ fun J B3 H3 t3 wd => ?_
  obtain ⟨G, Y, wk, hG, hY⟩ := wd.ex
  rw [upTo_len] at wk
  have t13 := t12.trans t3
  refine for_it wk (fun i σ H' => ∃ B', Same B3 B' ∧ S K B' H' B' H' σ [.raw (.ref A.w), .val (toldD frs), .val (.list (nss.map fun l => .list (l.map .str))), .val (.list (bs.map .int)), .raw (.ref nw), .no, .no, .no, .no] ∧ Same H H')
    ⟨B3, Same.refl B3, (s2.step t3).re rfl t3.bh, t13.h⟩ (fun i σ H' _ ⟨B', e, z, _⟩ => hG H' (e.trans z.bh)) ?_ ?_
  · rintro i x σ H4 H5 hi ⟨B', e, z, hh⟩ y
    have er : frs[i]? = some frs[i] := List.getElem?_eq_getElem hi
    have hd : (upTo frs.length)[i]? = some (.int (i : Int)) := by
      unfold upTo
      rw [List.getElem?_map, List.getElem?_range hi]
      rfl
    obtain ⟨B5, r5, dx5⟩ := hY i x B' H4 H5 _ e z.bh hd y
    obtain ⟨fn, now, m, hfn, ho, hnd, hns, hnl, hnow, hkv, ok⟩ := (fit i _ er).ex
    refine xg_name (i := 5) (K := K) B' H4 B5 H5 σ x (z.step r5) dx5 _ fun σ1 s1 _ => ?_
    refine vi_zip (K := K) (ds := fn.names.map .str) (es := bs.map .int) (ve_op (ve_var (i := 2) rfl) (ve_var (i := 5) rfl) (rd_ixL (getI (by rw [List.getElem?_map, hns]; rfl)))) (ve_var (i := 3) rfl) (by rw [List.length_map, List.length_map, hnl]) B' H4 B5 H5 σ1 s1 _ fun J2 B6 H6 t6 wd2 => ?_
    obtain ⟨G2, Y2, wk2, hG2, hY2⟩ := wd2.ex
    have hzl : (zipD (fn.names.map PyData.str) (bs.map PyData.int)).length = fn.names.length := by
      rw [zipD_len (by rw [List.length_map, List.length_map, hnl]), List.length_map]
    rw [hzl] at wk2
    have hh6 : Same H H6 := (hh.trans r5.h).trans t6.h
    refine for_it wk2 (fun j σ H' => ∃ B', Same B6 B' ∧ S K B' H' B' H' σ [.raw (.ref A.w), .val (toldD frs), .val (.list (nss.map fun l => .list (l.map .str))), .val (.list (bs.map .int)), .raw (.ref nw), .val (.int (i : Int)), .no, .no, .no] ∧ Same H H')
      ⟨B6, Same.refl B6, S.re (δ := [.raw (.ref A.w), .val (toldD frs), .val (.list (nss.map fun l => .list (l.map .str))), .val (.list (bs.map .int)), .raw (.ref nw), .val (.int (i : Int)), .no, .no, .no]) (s1.step t6) rfl t6.bh, hh6⟩ (fun j σ H' _ ⟨B', e, z, _⟩ => hG2 H' (e.trans z.bh)) ?_ ?_
    · rintro j x σ H7 H8 hj ⟨B7, e7, z7, hh7⟩ y7
      have ej : fn.names[j]? = some fn.names[j] := List.getElem?_eq_getElem hj
      have hj2 : j < bs.length := by omega
      have eb : bs[j]? = some bs[j] := List.getElem?_eq_getElem hj2
      have hd2 : (zipD (fn.names.map PyData.str) (bs.map PyData.int))[j]? = some (.tuple [.str fn.names[j], .int bs[j]]) := by
        unfold zipD
        rw [List.getElem?_zipWith, List.getElem?_map, List.getElem?_map, ej, eb]
        rfl
      obtain ⟨B8, r8, dx8⟩ := hY2 j x B7 H7 H8 _ e7 z7.bh hd2 y7
      refine xg_tup (K := K) (xgs_cons (is := [6]) xg_name (xgs_cons (is := [7]) xg_name xgs_nil)) rfl B7 H7 B8 H8 σ x (z7.step r8) dx8 _ fun σ2 s2 _ => ?_
      have hh8 := hh7.trans r8.h
      obtain ⟨u5, e5, d5⟩ := s2.at_ 5 (.val (.int (i : Int))) rfl
      obtain ⟨u6, e6, d6⟩ := s2.at_ 6 (.val (.str fn.names[j])) rfl
      obtain ⟨u7, e7', d7⟩ := s2.at_ 7 (.val (.int bs[j])) rfl
      cases d5; cases d6; cases d7
      refine h_asg ?_
      have hw8 := hw.same hh8
      refine ⟨_, s2.at_ 0 (.raw (.ref A.w)) rfl, A.w, dxw, _, rfl, hw8.base.wa, no_told _ _, _, e5, _, e6, B, A, dxw, fns, bs, res, frs, i, frs[i], fn, j, fn.names[j], bs[j], m, rfl, hw8, er, hfn, ho, hnd, ej, eb, ok, fun H9 h89 => ?_⟩
      have s9 : S K B8 H9 B8 H9 (σ2.set 8 (some (.int (gB frs[i].kvs bs[j])))) _ := (s2.re rfl (s2.bh.trans h89)).val 8 (.int _)
      have hh9 := hh8.trans h89
      refine h_if1 (h_or (vt_not (vt_B (ve_call (R := R_whole) (va_cons (ve_var (i := 8) rfl) va_nil) ⟨_, rfl, rfl⟩)) B8 H9 B8 H9 _ s9 _ fun B10 H10 t10 => ?_))
      refine iteF ?_
      have s10 := s9.step t10
      have hh10 := hh9.trans t10.h
      obtain ⟨v5, f5, g5⟩ := s10.at_ 5 (.val (.int (i : Int))) rfl
      obtain ⟨v7, f7, g7⟩ := s10.at_ 7 (.val (.int bs[j])) rfl
      obtain ⟨v8, f8, g8⟩ := s10.at_ 8 (.val (.int (gB frs[i].kvs bs[j]))) rfl
      cases g5; cases g7; cases g8
      refine ⟨_, f8, _, s10.at_ 4 (.raw (.ref nw)) rfl, _, f5, nw, _, _, .ref now, rfl, rfl, hh10.seq sn, atI_nat (by rw [List.getElem?_map, hnow]; rfl), now, rfl, .inl ⟨_, .inl (hh10 _ _ hkv)⟩, _, f7, _, DGet.k (k := .inl bs[j]) (hh10 _ _ hkv), ?_⟩
      rw [(ok.all bs[j]).1]
      refine ⟨rfl, false, by rw [decide_eq_true rfl]; rfl, ?_⟩
      refine iteF ?_
      exact ⟨B10, (e7.trans r8.b).trans t10.b, (s10.weak (δ' := [.raw (.ref A.w), .val (toldD frs), .val (.list (nss.map fun l => .list (l.map .str))), .val (.list (bs.map .int)), .raw (.ref nw), .val (.int (i : Int)), .no, .no, .no]) ⟨.inr rfl, .inr rfl, .inr rfl, .inr rfl, .inr rfl, .inr rfl, .inl rfl, .inl rfl, .inl rfl, trivial⟩).re rfl t10.bh, hh10⟩
    · rintro σ H7 ⟨B7, e7, z7, hh7⟩
      exact ⟨B7, ((e.trans r5.b).trans t6.b).trans e7, z7.weak ⟨.inr rfl, .inr rfl, .inr rfl, .inr rfl, .inr rfl, .inl rfl, .inr rfl, .inr rfl, .inr rfl, trivial⟩, hh7⟩
  · rintro σ H4 ⟨B', e, z, hh⟩
    exact q H4 hh
end
end K37
/-! The law: a walk. -/
namespace K37
open PySem L2
section
variable {P : Program} {w : World} {K : PySem.W.Frag} {mg : Str → Option Value} {base : Heap} {aG aA : Addr} {δ δ1 : List Slot} {ta tb te tx ty tk tv td tn : TE}
/-! ### numbers by their places, put into a dict -/
theorem mkB_take (L : List Int) : putAll [] ((numbered L).take L.length) = mkB L := by
  rw [← numbered_len L, List.take_length]
  rfl
theorem num_take_len {L : List Int} (hL : ∀ x ∈ L, Rng x) (i : Nat) : (putAll [] ((numbered L).take i)).length ≤ L.length := by
  have z2 := (putAll_ok BOk.nil (ps := (numbered L).take i) (fun p hp => ?_)).len
  · rw [List.length_take, numbered_len] at z2
    omega
  · have hp := List.mem_of_mem_take hp
    unfold numbered at hp
    obtain ⟨q, hq, rfl⟩ := List.mem_map.mp hp
    obtain ⟨_, _, h3⟩ := List.mem_zipIdx (x := q.1) (i := q.2) (by cases q; exact hq)
    rw [h3]
    exact hL _ (List.getElem_mem _)
theorem plain_set : ∀ {δ : List Slot} {c : Nat} {d : PyData}, plainS δ = true → plainS (δ.set c (.val d)) = true
  | [], _, _, h => h
  | .no :: r, 0, _, h => h
  | .raw _ :: r, 0, _, h => h
  | .val _ :: r, 0, _, h => h
  | .no :: r, c + 1, _, h => plain_set (δ := r) h
  | .raw _ :: r, c + 1, _, h => plain_set (δ := r) h
  | .val _ :: r, c + 1, _, h => plain_set (δ := r) h
theorem num_loop {wi : TI} {D : Ends} {tz : TS} {σ : L2.St} {B H : Hp} {n : Addr} {c d : Nat} (L : List Int) (hL : ∀ x ∈ L, Rng x) (hl : L.length ≤ 100) (hwi : VI K wi δ (upTo L.length)) (hp : plainS δ = true) (hd : δ[d]? = some (.raw (.ref n))) (hc : δ[c]? = some .no) (hn : H n = some (.dK [])) (nb : B n = none) (s : S K B H B H σ δ)
    (hs : ∀ (j : Nat) (x : Int), L[j]? = some x → ∀ B' H' σ', S K B' H' B' H' σ' (δ.set c (.val (.int (j : Int)))) → Keep n H H' → ∀ Q : VK, (∀ B'' H'', Tr B' H' B'' H'' → Q (.int x) H'') → tv σ' H' Q)
    (q : ∀ σ' B' H', Same B B' → S K B' H' B' H' σ' δ → Keep n H H' → H' n = some (.dK (mkB L)) → (∀ x, B x = none → H x ≠ none → B' x = none) → tz D σ' H') : tSeq (tFor wi (gName c) (sDPut (tVar d) (tVar c) tv)) tz D σ H := by
  refine hwi B H B H σ s _ fun J B3 H3 t3 wd => ?_
  obtain ⟨G, Y, wk, hG, hY⟩ := wd.ex
  rw [upTo_len] at wk
  have hcd : c ≠ d := fun e => by
    rw [e, hd] at hc
    cases hc
  have hcl : c < δ.length := by
    rcases Nat.lt_or_ge c δ.length with h | h
    · exact h
    · rw [List.getElem?_eq_none h] at hc
      cases hc
  refine for_it wk (fun i σ H' => ∃ B', Same B3 B' ∧ S K B' H' B' H' σ δ ∧ (∀ x, B x = none → H x ≠ none → B' x = none) ∧ H' n = some (.dK (putAll [] ((numbered L).take i))) ∧ Keep n H H')
    ⟨B3, Same.refl B3, (s.step t3).re hp t3.bh, fun x h1 h2 => ?_, t3.h _ _ hn, .of t3.h⟩ (fun i σ H' _ ⟨B', e, z, _⟩ => hG H' (e.trans z.bh)) ?_ ?_
  · cases e : H x with
    | none => exact absurd e h2
    | some o => exact t3.out h1 e
  · rintro i x σ H4 H5 hi ⟨B', e, z, no, hn', kp⟩ y
    have e1 : (upTo L.length)[i]? = some (.int (i : Int)) := by
      unfold upTo
      rw [List.getElem?_map, List.getElem?_range hi]
      rfl
    have e2 : L[i]? = some L[i] := List.getElem?_eq_getElem hi
    obtain ⟨B5, r5, dx5⟩ := hY i x B' H4 H5 _ e z.bh e1 y
    refine xg_name (i := c) (K := K) B' H4 B5 H5 σ x (z.step r5) dx5 _ fun σ1 s1 _ => ?_
    have hp1 : plainS (δ.set c (.val (.int (i : Int)))) = true := plain_set hp
    refine hs i _ e2 B5 H5 σ1 (s1.re hp1 r5.bh) (kp.trans (.of r5.h)) _ fun B6 H6 t6 => ?_
    have s6 := s1.step t6
    obtain ⟨u, eu, du⟩ := s6.at_ c (.val (.int (i : Int))) (by rw [List.getElem?_set_self hcl])
    cases du
    have hn6 := t6.h _ _ (r5.h _ _ hn')
    have r56 := r5.trans t6
    have nbn : B' n = none := no n nb (by rw [hn]; exact fun z => nomatch z)
    refine ⟨_, s6.at_ d (.raw (.ref n)) (by rw [List.getElem?_set_ne hcd]; exact hd), _, eu, n, _, rfl, DPut.k (k := .inl (i : Int)) hn6 (small1000 (Nat.le_trans (num_take_len hL i) (by omega))), ?_⟩
    refine ⟨B6, e.trans r56.b, ?_, fun x h1 h2 => ?_, ?_, (kp.trans (.of r56.h)).trans .upd⟩
    · refine S.re (δ := δ) ⟨s6.tr, ?_, fun j y hj => ?_⟩ hp (same_upd r56.bh (r56.out nbn hn'))
      · rw [s6.len, List.length_set]
      · by_cases ej : j = c
        · subst ej
          rw [hc] at hj
          cases hj
          trivial
        · exact s6.at_ j y (by rw [List.getElem?_set_ne (Ne.symm ej)]; exact hj)
    · have h9 := no x h1 h2
      by_cases q : x = n
      · subst q
        exact r56.out h9 hn'
      · cases e : H x with
        | none => exact absurd e h2
        | some o => exact r56.out h9 (kp x o e q)
    · rw [mkB_step e2]
      exact upd_same
  · rintro σ H4 ⟨B', e, z, no, hn', kp⟩
    rw [mkB_take] at hn'
    exact q σ B' H4 (t3.b.trans e) z kp hn' no
/-! ### calls, by slots -/
theorem st_call {CF CW : Addr} {E : XK} {tz : TA} {B H : Hp} {σ : L2.St} {A : WAd} {dxw : Addr} {fns : List Fn} {bs : List Int} {res : V} {frs : List Fr} {nss : List (List Str)} {nows : List Addr} (s : S K B H B H σ δ) (h0 : δ[0]? = some (.raw (.ref A.w))) (h6 : δ[6]? = some (.val (.list (bs.map .int))))
    (hd : VE K td δ (toldD frs)) (hn : VE K tn δ (.list (nss.map fun l => .list (l.map .str)))) (hz : ∀ H' (Q : List V → Hp → Prop), Q (nows.map .ref) H' → tz σ H' Q) (hw : WSt K CF CW B H A dxw fns bs res frs) (hl : frs.length ≤ 10) (hnl : nows.length ≤ 10) (hso : ∀ r ∈ frs, StrOk r.own) (hbl : bs.length ≤ 100)
    (fit : ∀ i r, frs[i]? = some r → Fits H fns bs nss nows i r) {Q : Bool → Hp → Prop} (q : ∀ H', Same H H' → Q false H') : tNot (tB (tCall (spStands K CF CW) [] E (tCons (tVar 0) (tCons td (tCons tn (tCons (tVar 6) (tCons (tLst tz) tNil))))))) σ H Q := by
  refine ⟨_, s.at_ 0 _ h0, hd B H B H σ s _ fun vd B1 H1 t1 dd => hn B H B1 H1 σ (s.step t1) _ fun vn B2 H2 t2 dn => ?_⟩
  have t12 := t1.trans t2
  obtain ⟨vb, eb, db⟩ := (s.step t12).at_ 6 _ h6
  refine ⟨_, eb, hz _ _ ⟨by rw [List.length_map]; exact Nat.le_of_lt (small1000 (by omega)), fun p hp => ?_⟩⟩
  have hh : Same H (upd H2 p (.lst (nows.map .ref))) := same_upd t12.h (t12.h.free hp)
  have hw2 : WSt K CF CW B2 (upd H2 p (.lst (nows.map .ref))) A dxw fns bs res frs := ⟨⟨same_upd t12.bh (t12.bh.free hp), hh _ _ hw.base.wa, hw.base.stat.same t12.b⟩, hh _ _ hw.st, fun r hr => ⟨hh _ _ (hw.fr r hr).1, hh _ _ (hw.fr r hr).2⟩, hw.at_⟩
  refine ⟨B2, A, dxw, fns, bs, res, frs, nss, vd, vn, vb, p, nows, rfl, hw2, dp_same t2.b dd, dn, db, SqL.of upd_same, hl, hso, hbl, fun i r hr => ?_, fun H' h => ⟨true, rfl, q H' (hh.trans h)⟩⟩
  obtain ⟨fn, now, m, h1, h2, h3, h4, h5, h6, h7, h8⟩ := (fit i r hr).ex
  exact ⟨fn, now, m, h1, h2, h3, h4, h5, h6, hh _ _ h7, h8⟩
theorem worth_call {E : XK} {B H : Hp} {σ : L2.St} {j : Nat} {n : Addr} {kvs : Bx} {m : Nat} {t : Rk} (s : S K B H B H σ δ) (ht : VE K te δ (rkD t)) (hj : δ[j]? = some (.raw (.ref n))) (hn : H n = some (.dK kvs)) (ok : BOk m kvs) (ot : t.Ok ∧ t.dep < 3) {Q : VK} (q : ∀ B' H', Tr B H B' H' → Q (.int (wr kvs t)) H') :
    tCall (spS K (R_worth 3)) [] E (tCons te (tCons (tVar j) tNil)) σ H Q := by
  refine ht B H B H σ s _ fun v B1 H1 t1 dv => ?_
  refine ⟨_, (s.step t1).at_ j _ hj, ?_⟩
  exact ⟨B1, [.val (rkD t), .fact (DkF kvs)], _, t1.bh, .vl dv (.ft ⟨n, rfl, t1.h _ _ hn⟩ (DkF.keeps kvs) .nil), ⟨t, kvs, m, rfl, ot.1, ot.2, ok, rfl⟩, fun v3 B3 H3 t3 d3 => by
    cases d3
    exact q B3 H3 (t1.trans t3)⟩
/-- if box is not None: now[box] = .. -/
theorem h_ifput {tz : TS} {D : Ends} {B H : Hp} {σ : L2.St} {i j : Nat} {n : Addr} {kvs : Bx} {bx : Option Int} {x : Int} (s : S K B H B H σ δ) (hp : plainS δ = true) (hi : δ[i]? = some (.val (optD bx))) (hj : δ[j]? = some (.raw (.ref n))) (hn : H n = some (.dK kvs)) (hl : kvs.length ≤ 1000)
    (hv : ∀ Q : VK, (∀ B' H', Tr B H B' H' → Q (.int x) H') → tv σ H Q) (q : ∀ H', Keep n H H' → H' n = some (.dK (putO kvs x bx)) → tz D σ H') : tSeq (tIfS (tB (tNotN (tVar i))) (sDPut (tVar j) (tVar i) tv) tNext) tz D σ H := by
  obtain ⟨u, eu, du⟩ := s.at_ i _ hi
  refine h_if ⟨_, eu, _, rfl, ?_⟩
  cases bx with
  | none =>
    cases du
    exact iteF (h_next (q H .refl hn))
  | some k =>
    cases du
    refine iteT ?_
    refine hv _ fun B' H' t => ?_
    refine ⟨_, s.at_ j _ hj, _, eu, n, _, rfl, DPut.k (k := .inl k) (t.h _ _ hn) (small1000 hl), ?_⟩
    exact q _ ((Keep.of t.h).trans .upd) upd_same
theorem lset_call {E : XK} {B H : Hp} {σ : L2.St} {i j : Nat} {n : Addr} {kvs : Bx} {m : Nat} {l : Sets} (s : S K B H B H σ δ) (hi : δ[i]? = some (.val (setsD l))) (hj : δ[j]? = some (.raw (.ref n))) (hn : H n = some (.dK kvs)) (nb : B n = none) (ok : BOk m kvs) (hm : m ≤ 100) (ol : l.Ok) (ll : l.length ≤ 10) {Q : VK}
    (q : ∀ H', Keep n H H' → H' n = some (.dK (setB kvs l)) → Q .non H') : tCall (spLset K) [] E (tCons (tVar i) (tCons (tVar j) tNil)) σ H Q := by
  obtain ⟨u, eu, du⟩ := s.at_ i _ hi
  exact ⟨_, eu, _, s.at_ j _ hj, B, n, kvs, m, l, u, rfl, s.bh, hn, ok, hm, du, ol, ll, nb, q⟩
/-! ### a walker with one frame, with two -/
structure Fx (K : PySem.W.Frag) (CF CW : Addr) (B H : Hp) (A : WAd) (dxw : Addr) (fns : List Fn) (bs : List Int) (r : Fr) (n : Addr) (kn : Bx) : Prop where
  wb : WBase K CW B H A dxw fns bs .non
  st : H A.stack = some (.lst [.ref r.f])
  fr : FrAt CF H r
  hn : H n = some (.dK kn)
  nw : B A.w = none
  ns : B A.stack = none
  nf : B r.f = none
  nb : B r.b = none
  nn : B n = none
  ne : n ≠ r.b
structure Gx (K : PySem.W.Frag) (CF CW : Addr) (B H : Hp) (A : WAd) (dxw : Addr) (fns : List Fn) (bs : List Int) (r1 r0 : Fr) (n : Addr) (kn : Bx) (m : Addr) (km : Bx) : Prop where
  wb : WBase K CW B H A dxw fns bs .non
  st : H A.stack = some (.lst [.ref r1.f, .ref r0.f])
  fr1 : FrAt CF H r1
  fr0 : FrAt CF H r0
  hn : H n = some (.dK kn)
  hm : H m = some (.dK km)
  nw : B A.w = none
  ns : B A.stack = none
  nf1 : B r1.f = none
  nb1 : B r1.b = none
  nf0 : B r0.f = none
  nb0 : B r0.b = none
  nn : B n = none
  nm : B m = none
  e1 : n ≠ r1.b
  e2 : n ≠ r0.b
  e3 : m ≠ r1.b
  e4 : m ≠ r0.b
  e5 : n ≠ m
  e6 : r1.b ≠ r0.b
  e7 : r1.f ≠ r0.f
theorem Fx.step {CF CW : Addr} {B H B' H' : Hp} {A : WAd} {dxw : Addr} {fns : List Fn} {bs : List Int} {r : Fr} {n : Addr} {kn : Bx} (x : Fx K CF CW B H A dxw fns bs r n kn) (t : Tr B H B' H') : Fx K CF CW B' H' A dxw fns bs r n kn :=
  ⟨⟨t.bh, t.h _ _ x.wb.wa, x.wb.stat.same t.b⟩, t.h _ _ x.st, ⟨t.h _ _ x.fr.1, t.h _ _ x.fr.2⟩, t.h _ _ x.hn, t.out x.nw x.wb.wa, t.out x.ns x.st, t.out x.nf x.fr.1, t.out x.nb x.fr.2, t.out x.nn x.hn, x.ne⟩
theorem Fx.grow {CF CW : Addr} {B H H' : Hp} {A : WAd} {dxw : Addr} {fns : List Fn} {bs : List Int} {r : Fr} {n : Addr} {kn : Bx} (x : Fx K CF CW B H A dxw fns bs r n kn) (h : Same H H') : Fx K CF CW B H' A dxw fns bs r n kn := x.step (.grow x.wb.bh h)
theorem Gx.step {CF CW : Addr} {B H B' H' : Hp} {A : WAd} {dxw : Addr} {fns : List Fn} {bs : List Int} {r1 r0 : Fr} {n m : Addr} {kn km : Bx} (x : Gx K CF CW B H A dxw fns bs r1 r0 n kn m km) (t : Tr B H B' H') : Gx K CF CW B' H' A dxw fns bs r1 r0 n kn m km :=
  ⟨⟨t.bh, t.h _ _ x.wb.wa, x.wb.stat.same t.b⟩, t.h _ _ x.st, ⟨t.h _ _ x.fr1.1, t.h _ _ x.fr1.2⟩, ⟨t.h _ _ x.fr0.1, t.h _ _ x.fr0.2⟩, t.h _ _ x.hn, t.h _ _ x.hm, t.out x.nw x.wb.wa, t.out x.ns x.st, t.out x.nf1 x.fr1.1, t.out x.nb1 x.fr1.2, t.out x.nf0 x.fr0.1, t.out x.nb0 x.fr0.2, t.out x.nn x.hn, t.out x.nm x.hm, x.e1, x.e2, x.e3, x.e4, x.e5, x.e6, x.e7⟩
theorem Gx.grow {CF CW : Addr} {B H H' : Hp} {A : WAd} {dxw : Addr} {fns : List Fn} {bs : List Int} {r1 r0 : Fr} {n m : Addr} {kn km : Bx} (x : Gx K CF CW B H A dxw fns bs r1 r0 n kn m km) (h : Same H H') : Gx K CF CW B H' A dxw fns bs r1 r0 n kn m km := x.step (.grow x.wb.bh h)
/-- the law's own boxes alone changed -/
theorem Fx.now {CF CW : Addr} {B H H' : Hp} {A : WAd} {dxw : Addr} {fns : List Fn} {bs : List Int} {r : Fr} {n : Addr} {kn kn' : Bx} (x : Fx K CF CW B H A dxw fns bs r n kn) (k : Keep n H H') (hn : H' n = some (.dK kn')) : Fx K CF CW B H' A dxw fns bs r n kn' :=
  ⟨⟨k.base x.wb.bh x.nn, k _ _ x.wb.wa (ne_of x.wb.wa x.hn (by intro z; cases z)), x.wb.stat⟩, k _ _ x.st (ne_of x.st x.hn (by intro z; cases z)), ⟨k _ _ x.fr.1 (ne_of x.fr.1 x.hn (by intro z; cases z)), k _ _ x.fr.2 x.ne.symm⟩, hn, x.nw, x.ns, x.nf, x.nb, x.nn, x.ne⟩
theorem Gx.now {CF CW : Addr} {B H H' : Hp} {A : WAd} {dxw : Addr} {fns : List Fn} {bs : List Int} {r1 r0 : Fr} {n m : Addr} {kn km kn' : Bx} (x : Gx K CF CW B H A dxw fns bs r1 r0 n kn m km) (k : Keep n H H') (hn : H' n = some (.dK kn')) : Gx K CF CW B H' A dxw fns bs r1 r0 n kn' m km :=
  ⟨⟨k.base x.wb.bh x.nn, k _ _ x.wb.wa (ne_of x.wb.wa x.hn (by intro z; cases z)), x.wb.stat⟩, k _ _ x.st (ne_of x.st x.hn (by intro z; cases z)), ⟨k _ _ x.fr1.1 (ne_of x.fr1.1 x.hn (by intro z; cases z)), k _ _ x.fr1.2 x.e1.symm⟩, ⟨k _ _ x.fr0.1 (ne_of x.fr0.1 x.hn (by intro z; cases z)), k _ _ x.fr0.2 x.e2.symm⟩, hn, k _ _ x.hm x.e5.symm, x.nw, x.ns, x.nf1, x.nb1, x.nf0, x.nb0, x.nn, x.nm, x.e1, x.e2, x.e3, x.e4, x.e5, x.e6, x.e7⟩
theorem Gx.new {CF CW : Addr} {B H H' : Hp} {A : WAd} {dxw : Addr} {fns : List Fn} {bs : List Int} {r1 r0 : Fr} {n m : Addr} {kn km km' : Bx} (x : Gx K CF CW B H A dxw fns bs r1 r0 n kn m km) (k : Keep m H H') (hm : H' m = some (.dK km')) : Gx K CF CW B H' A dxw fns bs r1 r0 n kn m km' :=
  ⟨⟨k.base x.wb.bh x.nm, k _ _ x.wb.wa (ne_of x.wb.wa x.hm (by intro z; cases z)), x.wb.stat⟩, k _ _ x.st (ne_of x.st x.hm (by intro z; cases z)), ⟨k _ _ x.fr1.1 (ne_of x.fr1.1 x.hm (by intro z; cases z)), k _ _ x.fr1.2 x.e3.symm⟩, ⟨k _ _ x.fr0.1 (ne_of x.fr0.1 x.hm (by intro z; cases z)), k _ _ x.fr0.2 x.e4.symm⟩, k _ _ x.hn x.e5, hm, x.nw, x.ns, x.nf1, x.nb1, x.nf0, x.nb0, x.nn, x.nm, x.e1, x.e2, x.e3, x.e4, x.e5, x.e6, x.e7⟩
theorem Fx.wst {CF CW : Addr} {B H : Hp} {A : WAd} {dxw : Addr} {fns : List Fn} {bs : List Int} {r : Fr} {n : Addr} {kn : Bx} (x : Fx K CF CW B H A dxw fns bs r n kn) (a : ∃ fn ∈ fns, fn.own = r.own ∧ fn.rows[r.spot]? = some r.row) : WSt K CF CW B H A dxw fns bs .non [r] :=
  ⟨x.wb, x.st, fun y hy => by rw [List.mem_singleton.mp hy]; exact x.fr, fun y hy => by rw [List.mem_singleton.mp hy]; exact a⟩
theorem Gx.wst {CF CW : Addr} {B H : Hp} {A : WAd} {dxw : Addr} {fns : List Fn} {bs : List Int} {r1 r0 : Fr} {n m : Addr} {kn km : Bx} (x : Gx K CF CW B H A dxw fns bs r1 r0 n kn m km) (a1 : ∃ fn ∈ fns, fn.own = r1.own ∧ fn.rows[r1.spot]? = some r1.row) (a0 : ∃ fn ∈ fns, fn.own = r0.own ∧ fn.rows[r0.spot]? = some r0.row) : WSt K CF CW B H A dxw fns bs .non [r1, r0] :=
  ⟨x.wb, x.st, fun y hy => by
    rcases List.mem_cons.mp hy with z | z
    · rw [z]
      exact x.fr1
    · rw [List.mem_singleton.mp z]
      exact x.fr0, fun y hy => by
    rcases List.mem_cons.mp hy with z | z
    · rw [z]
      exact a1
    · rw [List.mem_singleton.mp z]
      exact a0⟩
/-! ### the steps -/
theorem step_call {CF CW : Addr} {E : XK} {B H : Hp} {A : WAd} {dxw : Addr} {fns : List Fn} {bs : List Int} {r : Fr} {n m : Addr} {kn km : Bx} {l : Sets} {g : Str} {es : List Rk} {k z : Nat} (rw1 rw0 : Int) (x : Fx K CF CW B H A dxw fns bs r n kn) (hm : H m = some (.dK km)) (nm : B m = none) (e1 : n ≠ m) (e2 : m ≠ r.b)
    (sp : SpotAt fns r.own r.spot l (.call g es (k : Int))) (ok : BOk z r.kvs) (hz : z ≤ 90) {Q : VK} (q : ∀ H' f b dx, Gx K CF CW B H' A dxw fns bs ⟨r.f, r.b, r.dx, r.own, k, rw1, setB r.kvs l⟩ ⟨f, b, dx, g, 0, rw0, mkB (es.map (wr r.kvs))⟩ n kn m km → Q .non H') : spStep K CF CW [.ref A.w] H Q E := by
  refine ⟨B, A, dxw, fns, bs, [], r, l, _, z, rfl, x.wb, x.st, by simp, x.fr, sp, ok, hz, x.nw, x.ns, x.nf, x.nb, ?_⟩
  intro H' f b dx kp hf hb h1 h2 h3 h4 h5
  have aw : A.w ≠ A.stack := ne_of x.wb.wa x.st (by intro z; cases z)
  have wf : A.w ≠ r.f := ne_of x.wb.wa x.fr.1 (by intro z; cases z)
  have wb : A.w ≠ r.b := ne_of x.wb.wa x.fr.2 (by intro z; cases z)
  have n1 : n ≠ A.stack := ne_of x.hn x.st (by intro z; cases z)
  have n2 : n ≠ r.f := ne_of x.hn x.fr.1 (by intro z; cases z)
  have m1 : m ≠ A.stack := ne_of hm x.st (by intro z; cases z)
  have m2 : m ≠ r.f := ne_of hm x.fr.1 (by intro z; cases z)
  exact q H' f b dx ⟨⟨kp.base x.wb.bh (by simp [x.ns, x.nf, x.nb]), kp _ _ x.wb.wa (by simp [aw, wf, wb]), x.wb.stat⟩, h1, ⟨h2, h3⟩, ⟨h4, h5⟩, kp _ _ x.hn (by simp [n1, n2, x.ne]), kp _ _ hm (by simp [m1, m2, e2]), x.nw, x.ns, x.nf, x.nb, x.wb.bh.free hf, x.wb.bh.free hb, x.nn, nm, x.ne, ne_of_none x.hn hb, e2, ne_of_none hm hb, e1, ne_of_none x.fr.2 hb, ne_of_none x.fr.1 hf⟩
theorem step_go {CF CW : Addr} {E : XK} {B H : Hp} {A : WAd} {dxw : Addr} {fns : List Fn} {bs : List Int} {r1 r0 : Fr} {n m : Addr} {kn km : Bx} {l : Sets} {k z : Nat} (rw0 : Int) (x : Gx K CF CW B H A dxw fns bs r1 r0 n kn m km)
    (sp : SpotAt fns r0.own r0.spot l (.go (k : Int))) (ok : BOk z r0.kvs) (hz : z ≤ 90) {Q : VK} (q : ∀ H', Gx K CF CW B H' A dxw fns bs r1 ⟨r0.f, r0.b, r0.dx, r0.own, k, rw0, setB r0.kvs l⟩ n kn m km → Q .non H') : spStep K CF CW [.ref A.w] H Q E := by
  refine ⟨B, A, dxw, fns, bs, [.ref r1.f], r0, l, _, z, rfl, x.wb, x.st, by simp, x.fr0, sp, ok, hz, x.nw, x.ns, x.nf0, x.nb0, ?_⟩
  intro H' kp h2 h3
  have wf : A.w ≠ r0.f := ne_of x.wb.wa x.fr0.1 (by intro z; cases z)
  have wb : A.w ≠ r0.b := ne_of x.wb.wa x.fr0.2 (by intro z; cases z)
  have sf : A.stack ≠ r0.f := ne_of x.st x.fr0.1 (by intro z; cases z)
  have sb : A.stack ≠ r0.b := ne_of x.st x.fr0.2 (by intro z; cases z)
  have fb : r1.f ≠ r0.b := ne_of x.fr1.1 x.fr0.2 (by intro z; cases z)
  have bf : r1.b ≠ r0.f := ne_of x.fr1.2 x.fr0.1 (by intro z; cases z)
  have n2 : n ≠ r0.f := ne_of x.hn x.fr0.1 (by intro z; cases z)
  have m2 : m ≠ r0.f := ne_of x.hm x.fr0.1 (by intro z; cases z)
  exact q H' ⟨⟨kp.base x.wb.bh (by simp [x.nf0, x.nb0]), kp _ _ x.wb.wa (by simp [wf, wb]), x.wb.stat⟩, kp _ _ x.st (by simp [sf, sb]), ⟨kp _ _ x.fr1.1 (by simp [x.e7, fb]), kp _ _ x.fr1.2 (by simp [bf, x.e6])⟩, ⟨h2, h3⟩, kp _ _ x.hn (by simp [n2, x.e2]), kp _ _ x.hm (by simp [m2, x.e4]), x.nw, x.ns, x.nf1, x.nb1, x.nf0, x.nb0, x.nn, x.nm, x.e1, x.e2, x.e3, x.e4, x.e5, x.e6, x.e7⟩
theorem step_back {CF CW : Addr} {E : XK} {B H : Hp} {A : WAd} {dxw : Addr} {fns : List Fn} {bs : List Int} {r1 r0 : Fr} {n m : Addr} {kn km : Bx} {l1 : Sets} {t : Rk} {bx : Option Int} {k z1 z : Nat} (rw1 : Int) (x : Gx K CF CW B H A dxw fns bs r1 r0 n kn m km)
    (sp : SpotAt fns r0.own r0.spot [] (.back t)) (sp1 : SpotAt fns r1.own r1.spot l1 (.wait bx (k : Int))) (ok : BOk z r0.kvs) (hz : z ≤ 90) (ok1 : BOk z1 r1.kvs) (hz1 : z1 ≤ 90) {Q : VK}
    (q : ∀ H', Fx K CF CW B H' A dxw fns bs ⟨r1.f, r1.b, r1.dx, r1.own, k, rw1, putO (setB r1.kvs l1) (wr r0.kvs t) bx⟩ n kn → Q .non H') : spStep K CF CW [.ref A.w] H Q E := by
  refine ⟨B, A, dxw, fns, bs, [.ref r1.f], r0, [], _, z, rfl, x.wb, x.st, by simp, x.fr0, sp, ok, hz, x.nw, x.ns, x.nf0, x.nb0, ?_⟩
  refine .inr ⟨r1, l1, bx, k, z1, rfl, x.fr1, x.e6, sp1, ok1, hz1, x.nf1, x.nb1, ?_⟩
  intro H' kp h1 h2 h3
  have ws : A.w ≠ A.stack := ne_of x.wb.wa x.st (by intro z; cases z)
  have wf : A.w ≠ r1.f := ne_of x.wb.wa x.fr1.1 (by intro z; cases z)
  have wb : A.w ≠ r1.b := ne_of x.wb.wa x.fr1.2 (by intro z; cases z)
  have wb0 : A.w ≠ r0.b := ne_of x.wb.wa x.fr0.2 (by intro z; cases z)
  have n1 : n ≠ A.stack := ne_of x.hn x.st (by intro z; cases z)
  have n2 : n ≠ r1.f := ne_of x.hn x.fr1.1 (by intro z; cases z)
  exact q H' ⟨⟨kp.base x.wb.bh (by simp [x.ns, x.nf1, x.nb1, x.nb0]), kp _ _ x.wb.wa (by simp [ws, wf, wb, wb0]), x.wb.stat⟩, h1, ⟨h2, h3⟩, kp _ _ x.hn (by simp [n1, n2, x.e1, x.e2]), x.nw, x.ns, x.nf1, x.nb1, x.nn, x.e1⟩
theorem step_end {CF CW : Addr} {E : XK} {B H : Hp} {A : WAd} {dxw : Addr} {fns : List Fn} {bs : List Int} {r : Fr} {n : Addr} {kn : Bx} {t : Rk} {z : Nat} (x : Fx K CF CW B H A dxw fns bs r n kn)
    (sp : SpotAt fns r.own r.spot [] (.back t)) (ok : BOk z r.kvs) (hz : z ≤ 90) {Q : VK}
    (q : ∀ H', WBase K CW B H' A dxw fns bs (.int (wr r.kvs t)) → H' A.stack = some (.lst []) → H' n = some (.dK kn) → Q .non H') : spStep K CF CW [.ref A.w] H Q E := by
  refine ⟨B, A, dxw, fns, bs, [], r, [], _, z, rfl, x.wb, x.st, by simp, x.fr, sp, ok, hz, x.nw, x.ns, x.nf, x.nb, ?_⟩
  refine .inl ⟨rfl, fun H' kp h1 h2 => ?_⟩
  have n1 : n ≠ A.stack := ne_of x.hn x.st (by intro z; cases z)
  have n2 : n ≠ A.w := ne_of x.hn x.wb.wa (by intro z; cases z)
  exact q H' ⟨kp.base x.wb.bh (by simp [x.ns, x.nw, x.nb]), h2, x.wb.stat⟩ h1 (kp _ _ x.hn (by simp [n1, n2, x.ne]))
/-! ### what is dealt -/
structure Deal where
  own0 : Str
  own1 : Str
  n0 : List Str
  n1 : List Str
  bs : List Int
  r0 : Int
  r1 : Int
  r2 : Int
  i0 : Int
  i1 : Int
  given : List Rk
  first : Sets
  third : Sets
  second : Sets
  box : Option Int
  a0 : Rk
  a1 : Rk
  args : List Int
def strsD (l : List Str) : PyData := .list (l.map .str)
def intsD (l : List Int) : PyData := .list (l.map .int)
def Deal.namesD (d : Deal) : PyData := .list [strsD d.n0, strsD d.n1]
def Deal.toldD (d : Deal) : PyData := .list [strsD [d.own0, d.own1], d.namesD, intsD d.bs, intsD [d.r0, d.r1, d.r2], intsD [d.i0, d.i1]]
def Deal.deedsD (d : Deal) : PyData := .list [.list (d.given.map rkD), setsD d.first, setsD d.third, setsD d.second, optD d.box, .list [rkD d.a0, rkD d.a1]]
structure Deal.Ok (d : Deal) (f0 f1 : Fn) (u v : Nat) : Prop where
  o0 : f0.own = d.own0
  o1 : f1.own = d.own1
  m0 : f0.names = d.n0
  m1 : f1.names = d.n1
  nd0 : d.n0.Nodup
  nd1 : d.n1.Nodup
  l0 : d.n0.length = 8
  l1 : d.n1.length = 8
  lb : d.bs.length = 8
  so0 : StrOk d.own0
  so1 : StrOk d.own1
  lg : d.given.length ≤ 6
  og : ∀ t ∈ d.given, t.Ok ∧ t.dep < 3
  s1 : d.first.Ok ∧ d.first.length ≤ 4
  s2 : d.second.Ok ∧ d.second.length ≤ 4
  s3 : d.third.Ok ∧ d.third.length ≤ 4
  a0 : d.a0.Ok ∧ d.a0.dep < 3
  a1 : d.a1.Ok ∧ d.a1.dep < 3
  la : d.args.length = 6
  ra : ∀ x ∈ d.args, Rng x
  p10 : f1.spots[0]? = some (d.first, .call d.own0 d.given (u : Int))
  p1u : f1.spots[u]? = some (d.second, .wait d.box (v : Int))
  p1v : f1.spots[v]? = some ([], .back d.a1)
  p00 : f0.spots[0]? = some (d.third, .go 1)
  p01 : f0.spots[1]? = some ([], .back d.a0)
  q10 : f1.rows[0]? = some d.r0
  q1u : f1.rows[u]? = some d.r1
  q1v : f1.rows[v]? = some d.r2
  q00 : f0.rows[0]? = some d.i0
  q01 : f0.rows[1]? = some d.i1
def spWalked (K : PySem.W.Frag) (CF CW : Addr) : Sp := fun vs H Q _ => ∃ (B : Hp) (A : WAd) (dxw : Addr) (f0 f1 : Fn) (d : Deal) (u v : Nat) (f b dxf : Addr) (vt vd va : V), vs = [.ref A.w, vt, vd, va] ∧ WBase K CW B H A dxw [f0, f1] d.bs .non ∧ H A.stack = some (.lst [.ref f]) ∧ H f = some (.ins CF dxf (ffs d.own1 0 b)) ∧ H b = some (.dK (mkB d.args)) ∧
  B A.w = none ∧ B A.stack = none ∧ B f = none ∧ B b = none ∧ Dp K B vt d.toldD ∧ Dp K B vd d.deedsD ∧ Dp K B va (intsD d.args) ∧ d.Ok f0 f1 u v ∧ ∀ H', Q (.bl true) H'
theorem sc_lwalked : FnScope ["_law_walker", "_law_told", "_law_deeds", "_law_args", "_law_own", "_law_names_here", "_law_boxes", "_law_row", "_law_inner", "_law_given", "_law_first", "_law_third", "_law_second", "_law_box", "_law_answers", "_law_now", "_law_k", "_law_new", "_law_both"] ["_law_walker", "_law_told", "_law_deeds", "_law_args"] (defScope s_lwalked) := ⟨rfl, rfl, rfl, by decide +kernel, rfl, by decide +kernel, by decide +kernel⟩
/-- what the names hold -/
def dl (d : Deal) (w : Addr) (n k m b : Slot) : List Slot := [.raw (.ref w), .val d.toldD, .val d.deedsD, .val (intsD d.args), .val (strsD [d.own0, d.own1]), .val d.namesD, .val (intsD d.bs), .val (intsD [d.r0, d.r1, d.r2]), .val (intsD [d.i0, d.i1]), .val (.list (d.given.map rkD)), .val (setsD d.first), .val (setsD d.third), .val (setsD d.second), .val (optD d.box), .val (.list [rkD d.a0, rkD d.a1]), n, k, m, b]
theorem Deal.Ok.spots {d : Deal} {f0 f1 : Fn} {u v : Nat} (o : d.Ok f0 f1 u v) : SpotAt [f0, f1] d.own1 0 d.first (.call d.own0 d.given (u : Int)) ∧ SpotAt [f0, f1] d.own1 u d.second (.wait d.box (v : Int)) ∧ SpotAt [f0, f1] d.own1 v [] (.back d.a1) ∧ SpotAt [f0, f1] d.own0 0 d.third (.go ((1 : Nat) : Int)) ∧ SpotAt [f0, f1] d.own0 1 [] (.back d.a0) := by
  have m1 : f1 ∈ [f0, f1] := by simp
  have m0 : f0 ∈ [f0, f1] := by simp
  have on : Sets.Ok [] := fun p hp => nomatch hp
  have l1 := o.s1.2
  have l2 := o.s2.2
  have l3 := o.s3.2
  have lg := o.lg
  refine ⟨⟨⟨f1, m1, o.o1, o.p10⟩, o.s1.1, by omega, o.og, by show d.given.length ≤ 100; omega⟩, ⟨⟨f1, m1, o.o1, o.p1u⟩, o.s2.1, by omega, (fun t ht => nomatch ht), by simp [Act.asks]⟩, ⟨⟨f1, m1, o.o1, o.p1v⟩, on, by simp, fun t ht => ?_, by simp [Act.asks]⟩, ⟨⟨f0, m0, o.o0, o.p00⟩, o.s3.1, by omega, (fun t ht => nomatch ht), by simp [Act.asks]⟩, ⟨⟨f0, m0, o.o0, o.p01⟩, on, by simp, fun t ht => ?_, by simp [Act.asks]⟩⟩
  · rw [List.mem_singleton.mp ht]
    exact o.a1
  · rw [List.mem_singleton.mp ht]
    exact o.a0
end
end K37
/-! The law: the walk, joined. -/
namespace K37
open PySem L2
/-- expressions whose readings are plain -/
local macro_rules | `(tactic| walk_at "ve") => `(tactic| first
  | exact ve_int | exact ve_str | exact ve_bl | exact ve_non | exact va_nil | exact vt_yes
  | exact ve_var rfl
  | (apply va_cons; (walk_at "ve"); (walk_at "ve"))
  | (apply ve_tup; (walk_at "ve"); (exact Nat.le_of_ble_eq_true rfl))
  | (apply VL.ve; apply vl_lst; (walk_at "ve"); (exact Nat.le_of_ble_eq_true rfl))
  | (apply ve_op; (walk_at "ve"); (walk_at "ve"); (walk_at "rd"))
  | (apply vt_test; (walk_at "ve"))
  | (apply vt_B; (walk_at "ve"))
  | (apply ve_notV; (walk_at "ve"))
  | (apply vt_not; (walk_at "ve"))
  | (apply vt_or; (walk_at "ve"); (intro _; (walk_at "ve")))
  | (apply vt_and; (walk_at "ve"); (intro _; (walk_at "ve")))
  | (apply ve_glob; first | exact Txt.dG (by assumption) | exact Txt.dA (by assumption)))
local macro_rules | `(tactic| walk_at "rd") => `(tactic| first
  | exact rd_int | exact rd_bool | exact rd_eqS | exact rd_eqI | exact rd_neI
  | exact rd_ixT rfl | exact rd_ixL rfl | exact rd_inT' rfl rfl | exact rd_inL' rfl rfl | exact rd_niT' rfl rfl | exact rd_niL' rfl rfl
  | (apply rd_intC; first | assumption | decide | (show (0 : Int) < _; decide) | (constructor <;> decide) | (constructor <;> first | decide | (constructor <;> decide))))
/-- an if whose test is known: no, on; yes, its return -/
local macro_rules | `(tactic| walk_at "no") => `(tactic| (apply xr_when; (walk_at "ve"); (intro h; exact absurd h (by decide +kernel)); intro _))
local macro_rules | `(tactic| walk_at "yes") => `(tactic| (apply xr_when; (walk_at "ve"); (intro _; apply xr_ret; (walk_at "ve")); (intro h; exact absurd h (by decide +kernel))))
local macro_rules | `(tactic| walk_at "ret") => `(tactic| (apply xr_ret; (walk_at "ve")))
local macro_rules | `(tactic| walk_at "set") => `(tactic| (apply xr_seq; (apply xn_set; (walk_at "ve"))))
section
variable {P : Program} {w : World} {K : PySem.W.Frag} {mg : Str → Option Value} {base : Heap} {aG aA : Addr}
theorem Fx.move {CF CW : Addr} {B H B' H' : Hp} {A : WAd} {dxw : Addr} {fns : List Fn} {bs : List Int} {r : Fr} {n : Addr} {kn : Bx} (x : Fx K CF CW B H A dxw fns bs r n kn) (b : Same B B') (bh : Same B' H') (h : Same H H') (no : ∀ a, B a = none → H a ≠ none → B' a = none) : Fx K CF CW B' H' A dxw fns bs r n kn :=
  have y : ∀ {a : Addr} {u : HO}, H a = some u → H a ≠ none := fun e z => by
    rw [e] at z
    cases z
  ⟨⟨bh, h _ _ x.wb.wa, x.wb.stat.same b⟩, h _ _ x.st, ⟨h _ _ x.fr.1, h _ _ x.fr.2⟩, h _ _ x.hn, no _ x.nw (y x.wb.wa), no _ x.ns (y x.st), no _ x.nf (y x.fr.1), no _ x.nb (y x.fr.2), no _ x.nn (y x.hn), x.ne⟩
theorem ok_lwalked {f CF CW : Addr} {fd : FuncData} (F : Fun K "_law_walked" "_law_walked" s_lwalked f fd) (T : Txt K mg aG aA) (CFp : CFt K CF) (C : CWt K CW) (c_lstands : C8.Cal P w K mg base 6 "_law_stands" (spStands K CF CW) []) (c_lworth : C8.Cal P w K mg base 4 "_law_worth" (spS K (R_worth 3)) []) (c_lset : C8.Cal P w K mg base 5 "_law_set" (spLset K) [])
    (c_lwhole : C8.Cal P w K mg base 1 "_law_whole" (spD K R_whole) []) (m_step : C8.Met P w K mg base 9 CW "step" (spStep K CF CW) []) (m_ended : C8.Met P w K mg base 1 CW "ended" (spEnded CW) []) (m_frames : C8.Met P w K mg base 2 CW "frames" (spFrames K CF CW) []) (m_answer : C8.Met P w K mg base 1 CW "answer" (spAnswer CW) []) :
    FnOk P w K mg base CX0 10 f fd ["_law_walker", "_law_told", "_law_deeds", "_law_args"] (spWalked K CF CW) := by
  have nd := sc_lwalked.nd
  refine F.ok sc_lwalked (fun vs H Q E h => ?_) (fun cdv Ar outer s H vs Q E hr h => ?_)
  · obtain ⟨_, _, _, _, _, _, _, _, _, _, _, _, _, _, rfl, _⟩ := h
    rfl
  have hu := hu_of hr
  obtain ⟨B, A, dxw, f0, f1, d, u, v, f, b, dxf, vt, vd, va, rfl, wb, st, hf, hb, nw, ns, nf, nb, dt, dd, da, o, q⟩ := h
  refine ⟨_, (pss_cons (ps_asg (pv 1) (pg_unl rfl (pgs_cons (pg_name (i := 4) nd rfl (Or.inl rfl)) (pgs_cons (pg_name (i := 5) nd rfl (Or.inl rfl)) (pgs_cons (pg_name (i := 6) nd rfl (Or.inl rfl)) (pgs_cons (pg_name (i := 7) nd rfl (Or.inl rfl)) (pgs_cons (pg_name (i := 8) nd rfl (Or.inl rfl)) pgs_nil)))))))
    (pss_cons (ps_asg (pv 2) (pg_unl rfl (pgs_cons (pg_name (i := 9) nd rfl (Or.inl rfl)) (pgs_cons (pg_name (i := 10) nd rfl (Or.inl rfl)) (pgs_cons (pg_name (i := 11) nd rfl (Or.inl rfl)) (pgs_cons (pg_name (i := 12) nd rfl (Or.inl rfl)) (pgs_cons (pg_name (i := 13) nd rfl (Or.inl rfl)) (pgs_cons (pg_name (i := 14) nd rfl (Or.inl rfl)) pgs_nil))))))))
    (pss_cons (ps_set (i := 15) nd rfl (Or.inl rfl) pe_dnewK)
    (pss_cons (ps_for PassesOwn.never rfl (pi_range1 (by rfl) T.range_ (pa_cons pe_int pa_nil)) (pg_name (i := 16) nd rfl (Or.inl rfl)) (pss_one (ps_dput hu (pv 15) (pv 16) (pe_ix ix_list (pv 3) (pv 16) (fun _ _ => rfl)) rfl)))
    (pss_cons (ps_if (pt_not (pt_val (C8.pe_c c_lstands hr (by omega) (by rfl) (pa_cons (pv 0) (pa_cons (pe_lst (pa_cons (pe_tup (pa_cons (pe_ix ix_list (pv 4) pe_int (fun _ _ => rfl)) (pa_cons (pe_ix ix_list (pv 7) pe_int (fun _ _ => rfl)) pa_nil))) pa_nil)) (pa_cons (pe_lst (pa_cons (pe_ix ix_list (pv 5) pe_int (fun _ _ => rfl)) pa_nil)) (pa_cons (pv 6) (pa_cons (pe_lst (pa_cons (pv 15) pa_nil)) pa_nil)))))))) (pss_one (ps_ret pe_bl)) pss_nil)
    (pss_cons (ps_set (i := 17) nd rfl (Or.inl rfl) pe_dnewK)
    (pss_cons (ps_for PassesOwn.never rfl (pi_range1 (by rfl) T.range_ (pa_cons (pe_callB call_len_seq (by rfl) T.len_ (by decide +kernel) (pa_cons (pv 9) pa_nil)) pa_nil)) (pg_name (i := 16) nd rfl (Or.inl rfl)) (pss_one (ps_dput hu (pv 17) (pv 16) (C8.pe_c c_lworth hr (by omega) (by rfl) (pa_cons (pe_ix ix_list (pv 9) (pv 16) (fun _ _ => rfl)) (pa_cons (pv 15) pa_nil))) rfl)))
    (pss_cons (ps_expr (C8.pe_c c_lset hr (by omega) (by rfl) (pa_cons (pv 10) (pa_cons (pv 15) pa_nil))))
    (pss_cons (ps_set (i := 18) nd rfl (Or.inl rfl) (pe_lst (pa_cons (pe_ix ix_list (pv 5) pe_int (fun _ _ => rfl)) (pa_cons (pe_ix ix_list (pv 5) pe_int (fun _ _ => rfl)) pa_nil))))
    (pss_cons (ps_if (pt_cmp (pc_notN (C8.pe_mt0 m_step hr (by omega) (pv 0)))) (pss_one (ps_ret pe_bl)) pss_nil)
    (pss_cons (ps_if (pt_not (pt_val (C8.pe_c c_lstands hr (by omega) (by rfl) (pa_cons (pv 0) (pa_cons (pe_lst (pa_cons (pe_tup (pa_cons (pe_ix ix_list (pv 4) pe_int (fun _ _ => rfl)) (pa_cons (pe_ix ix_list (pv 7) pe_int (fun _ _ => rfl)) pa_nil))) (pa_cons (pe_tup (pa_cons (pe_ix ix_list (pv 4) pe_int (fun _ _ => rfl)) (pa_cons (pe_ix ix_list (pv 8) pe_int (fun _ _ => rfl)) pa_nil))) pa_nil))) (pa_cons (pv 18) (pa_cons (pv 6) (pa_cons (pe_lst (pa_cons (pv 15) (pa_cons (pv 17) pa_nil))) pa_nil)))))))) (pss_one (ps_ret pe_bl)) pss_nil)
    (pss_cons (ps_expr (C8.pe_c c_lset hr (by omega) (by rfl) (pa_cons (pv 11) (pa_cons (pv 17) pa_nil))))
    (pss_cons (ps_if (pt_cmp (pc_notN (C8.pe_mt0 m_step hr (by omega) (pv 0)))) (pss_one (ps_ret pe_bl)) pss_nil)
    (pss_cons (ps_if (pt_not (pt_val (C8.pe_c c_lstands hr (by omega) (by rfl) (pa_cons (pv 0) (pa_cons (pe_lst (pa_cons (pe_tup (pa_cons (pe_ix ix_list (pv 4) pe_int (fun _ _ => rfl)) (pa_cons (pe_ix ix_list (pv 7) pe_int (fun _ _ => rfl)) pa_nil))) (pa_cons (pe_tup (pa_cons (pe_ix ix_list (pv 4) pe_int (fun _ _ => rfl)) (pa_cons (pe_ix ix_list (pv 8) pe_int (fun _ _ => rfl)) pa_nil))) pa_nil))) (pa_cons (pv 18) (pa_cons (pv 6) (pa_cons (pe_lst (pa_cons (pv 15) (pa_cons (pv 17) pa_nil))) pa_nil)))))))) (pss_one (ps_ret pe_bl)) pss_nil)
    (pss_cons (ps_expr (C8.pe_c c_lset hr (by omega) (by rfl) (pa_cons (pv 12) (pa_cons (pv 15) pa_nil))))
    (pss_cons (ps_if (pt_cmp (pc_notN (pv 13))) (pss_one (ps_dput hu (pv 15) (pv 13) (C8.pe_c c_lworth hr (by omega) (by rfl) (pa_cons (pe_ix ix_list (pv 14) pe_int (fun _ _ => rfl)) (pa_cons (pv 17) pa_nil))) rfl)) pss_nil)
    (pss_cons (ps_if (pt_cmp (pc_notN (C8.pe_mt0 m_step hr (by omega) (pv 0)))) (pss_one (ps_ret pe_bl)) pss_nil)
    (pss_cons (ps_if (PW.pt (pw_or (pt_not (pt_val (C8.pe_c c_lstands hr (by omega) (by rfl) (pa_cons (pv 0) (pa_cons (pe_lst (pa_cons (pe_tup (pa_cons (pe_ix ix_list (pv 4) pe_int (fun _ _ => rfl)) (pa_cons (pe_ix ix_list (pv 7) pe_int (fun _ _ => rfl)) pa_nil))) pa_nil)) (pa_cons (pe_lst (pa_cons (pe_ix ix_list (pv 5) pe_int (fun _ _ => rfl)) pa_nil)) (pa_cons (pv 6) (pa_cons (pe_lst (pa_cons (pv 15) pa_nil)) pa_nil)))))))) (pw_or1 (pt_cmpR op_notBl (C8.pe_mt0 m_ended hr (by omega) (pv 0)) pe_bl (nomark _))))) (pss_one (ps_ret pe_bl)) pss_nil)
    (pss_cons (ps_if (PW.pt (pw_or (pt_cmp (pc_notN (C8.pe_mt0 m_step hr (by omega) (pv 0)))) (pw_or (pt_cmpR op_notBl (C8.pe_mt0 m_ended hr (by omega) (pv 0)) pe_bl (nomark _)) (pw_or1 (pt_cmpR (op_neD hr.units) (C8.pe_mt0 m_frames hr (by omega) (pv 0)) (pe_lst pa_nil) (nomark _)))))) (pss_one (ps_ret pe_bl)) pss_nil)
    (pss_one (ps_ret (pe_and (C8.pe_c c_lwhole hr (by omega) (by rfl) (pa_cons (C8.pe_mt0 m_answer hr (by omega) (pv 0)) pa_nil)) (pe_one (pe_cmpR op_eq (C8.pe_mt0 m_answer hr (by omega) (pv 0)) (C8.pe_c c_lworth hr (by omega) (by rfl) (pa_cons (pe_ix ix_list (pv 14) pe_int (fun _ _ => rfl)) (pa_cons (pv 15) pa_nil))) (nomark _))))))))))))))))))))))))), ?_⟩
  obtain ⟨sp10, sp1u, sp1v, sp00, sp01⟩ := o.spots
  have hbl : d.bs.length ≤ 100 := by
    have := o.lb
    omega
  have nnl : ∀ i : Nat, ([d.n1, d.n0] : List (List Str))[i]? = some d.n1 → d.n1.length = d.bs.length := fun _ _ => o.l1.trans o.lb.symm
  have s0 : S K B H B H (L2.start ["_law_walker", "_law_told", "_law_deeds", "_law_args", "_law_own", "_law_names_here", "_law_boxes", "_law_row", "_law_inner", "_law_given", "_law_first", "_law_third", "_law_second", "_law_box", "_law_answers", "_law_now", "_law_k", "_law_new", "_law_both"] [.ref A.w, vt, vd, va]) [.raw (.ref A.w), .val d.toldD, .val d.deedsD, .val (intsD d.args), .no, .no, .no, .no, .no, .no, .no, .no, .no, .no, .no, .no, .no, .no, .no] := start_SS wb.bh (.rw_ (.vl dt (.vl dd (.vl da .nil))))
  generalize L2.start ["_law_walker", "_law_told", "_law_deeds", "_law_args", "_law_own", "_law_names_here", "_law_boxes", "_law_row", "_law_inner", "_law_given", "_law_first", "_law_third", "_law_second", "_law_box", "_law_answers", "_law_now", "_law_k", "_law_new", "_law_both"] [.ref A.w, vt, vd, va] = σ0 at s0 ⊢
  refine h_asgG ?_
  obtain ⟨x1, e1, d1⟩ := s0.at_ 1 (.val d.toldD) rfl
  refine ⟨_, e1, xg_unl (K := K) (ds := [strsD [d.own0, d.own1], d.namesD, intsD d.bs, intsD [d.r0, d.r1, d.r2], intsD [d.i0, d.i1]]) (xgs_cons (is := [4]) xg_name (xgs_cons (is := [5]) xg_name (xgs_cons (is := [6]) xg_name (xgs_cons (is := [7]) xg_name (xgs_cons (is := [8]) xg_name xgs_nil))))) rfl B H B H σ0 _ s0 d1 _ fun σ1 s1 _ => ?_⟩
  refine h_asgG ?_
  obtain ⟨x2, e2, d2⟩ := s1.at_ 2 (.val d.deedsD) rfl
  refine ⟨_, e2, xg_unl (K := K) (ds := [.list (d.given.map rkD), setsD d.first, setsD d.third, setsD d.second, optD d.box, .list [rkD d.a0, rkD d.a1]]) (xgs_cons (is := [9]) xg_name (xgs_cons (is := [10]) xg_name (xgs_cons (is := [11]) xg_name (xgs_cons (is := [12]) xg_name (xgs_cons (is := [13]) xg_name (xgs_cons (is := [14]) xg_name xgs_nil)))))) rfl B H B H σ1 _ s1 d2 _ fun σ2 s2 _ => ?_⟩
  have s2 : S K B H B H σ2 (dl d A.w .no .no .no .no) := s2
  refine h_asg ?_
  intro n hn
  have h0 : Same H (upd H n (.dK [])) := same_upd (Same.refl H) hn
  have s3 : S K B (upd H n (.dK [])) B (upd H n (.dK [])) (σ2.set 15 (some (.ref n))) (dl d A.w (.raw (.ref n)) .no .no .no) := (s2.re rfl (wb.bh.trans h0)).raw 15 (.ref n)
  refine num_loop (K := K) (c := 16) (d := 15) d.args o.ra (by rw [o.la]; decide) (vi_range (n := d.args.length) (va_cons (ve_eq ve_int (by rw [o.la]; rfl)) va_nil) (by rw [o.la]; decide)) rfl rfl rfl upd_same (wb.bh.free hn) s3 (fun j x hj B' H' σ' s' _ Q q => ?_) fun σ4 B4 H4 b4 s4 k4 n4 no4 => ?_
  · refine ve_op (ve_var (i := 3) rfl) (ve_var (i := 16) rfl) (rd_ixL (ds := d.args.map .int) (d := .int x) (getI (by rw [List.getElem?_map, hj]; rfl))) B' H' B' H' σ' s' Q fun v B2 H2 t2 d2 => ?_
    cases d2
    exact q B2 H2 t2
  have sm4 : Same H H4 := fun a o h => k4 a o (h0 a o h) (ne_of_none h hn)
  have no : ∀ a, B a = none → H a ≠ none → B4 a = none := fun a h1 h2 => no4 a h1 (by
    cases e : H a with
    | none => exact absurd e h2
    | some o =>
      rw [h0 a o e]
      exact fun z => nomatch z)
  have x4 : Fx K CF CW B4 H4 A dxw [f0, f1] d.bs ⟨f, b, dxf, d.own1, 0, d.r0, mkB d.args⟩ n (mkB d.args) :=
    ⟨⟨s4.bh, sm4 _ _ wb.wa, wb.stat.same b4⟩, sm4 _ _ st, ⟨sm4 _ _ hf, sm4 _ _ hb⟩, n4, no _ nw (by rw [wb.wa]; exact fun z => nomatch z), no _ ns (by rw [st]; exact fun z => nomatch z), no _ nf (by rw [hf]; exact fun z => nomatch z), no _ nb (by rw [hb]; exact fun z => nomatch z), no4 _ (wb.bh.free hn) (by rw [upd_same]; exact fun z => nomatch z), (ne_of_none hb hn).symm⟩
  have okA : BOk 6 (mkB d.args) := by
    have z := mkB_ok o.ra
    rw [o.la] at z
    exact z
  have rowA : ∃ fn ∈ [f0, f1], fn.own = d.own1 ∧ fn.rows[0]? = some d.r0 := ⟨f1, by simp, o.o1, o.q10⟩
  refine h_if (st_call (frs := [⟨f, b, dxf, d.own1, 0, d.r0, mkB d.args⟩]) (nss := [d.n1]) (nows := [n]) s4 rfl rfl (show VE K _ _ (.list [.tuple [.str d.own1, .int d.r0]]) by walk_at "ve") (show VE K _ _ (.list [strsD d.n1]) by walk_at "ve") (fun H' Q q => ⟨_, s4.at_ 15 (.raw (.ref n)) rfl, q⟩) (x4.wst rowA) (by simp) (by simp) (fun r hr => by rw [List.mem_singleton.mp hr]; exact o.so1) hbl (fun i r hr => ?_) fun H5 g5 => ?_)
  · match i, hr with
    | 0, hr =>
      cases hr
      exact ⟨f1, n, 6, by simp, o.o1, by rw [o.m1]; exact o.nd1, by rw [o.m1]; rfl, by rw [o.m1, o.l1, o.lb], rfl, x4.hn, okA⟩
  refine iteF (h_next ?_)
  have x5 := x4.grow g5
  have s5 := s4.re rfl x5.wb.bh
  refine h_asg ?_
  intro m hm
  have x6 := x5.grow (same_upd (o := .dK []) (Same.refl H5) hm)
  have s6 : S K B4 (upd H5 m (.dK [])) B4 (upd H5 m (.dK [])) (σ4.set 17 (some (.ref m))) (dl d A.w (.raw (.ref n)) .no (.raw (.ref m)) .no) := (s5.re rfl x6.wb.bh).raw 17 (.ref m)
  have hnm : n ≠ m := ne_of_none x5.hn hm
  have hmb : m ≠ b := (ne_of_none x5.fr.2 hm).symm
  have rngG : ∀ x ∈ d.given.map (wr (mkB d.args)), Rng x := fun x hx => by
    obtain ⟨t, ht, rfl⟩ := List.mem_map.mp hx
    exact wr_rng okA t (o.og t ht).1
  have lenG : (d.given.map (wr (mkB d.args))).length ≤ 6 := by
    rw [List.length_map]
    exact o.lg
  refine num_loop (K := K) (c := 16) (d := 17) (d.given.map (wr (mkB d.args))) rngG (by omega) (vi_range (n := (d.given.map (wr (mkB d.args))).length) (va_cons (ve_eq (ve_cb (va_cons (ve_var (i := 9) rfl) va_nil) rc_len) (by rw [List.length_map, List.length_map])) va_nil) (by omega)) rfl rfl rfl upd_same (x5.wb.bh.free hm) s6 (fun j x hj B' H' σ' s' kp Q q => ?_) fun σ7 B7 H7 b7 s7 k7 m7 no7 => ?_
  · rw [List.getElem?_map] at hj
    cases ej : d.given[j]? with
    | none => rw [ej] at hj; cases hj
    | some t =>
    rw [ej] at hj
    cases hj
    exact worth_call (j := 15) s' (ve_op (ve_var (i := 9) rfl) (ve_var (i := 16) rfl) (rd_ixL (ds := d.given.map rkD) (d := rkD t) (getI (by rw [List.getElem?_map, ej]; rfl)))) rfl (kp _ _ x6.hn hnm) okA (o.og t (List.mem_of_getElem? ej)) q
  have sm7 : Same H5 H7 := fun a o h => k7 a o (same_upd (Same.refl H5) hm a o h) (ne_of_none h hm)
  have x7 : Fx K CF CW B7 H7 A dxw [f0, f1] d.bs ⟨f, b, dxf, d.own1, 0, d.r0, mkB d.args⟩ n (mkB d.args) := x5.move b7 s7.bh sm7 fun a h1 h2 => no7 a h1 (by
    cases e : H5 a with
    | none => exact absurd e h2
    | some o =>
      rw [same_upd (Same.refl H5) hm a o e]
      exact fun z => nomatch z)
  have nm7 : B7 m = none := no7 m (x5.wb.bh.free hm) (by rw [upd_same]; exact fun z => nomatch z)
  have okG : BOk 6 (mkB (d.given.map (wr (mkB d.args)))) := (mkB_ok rngG).mono lenG
  refine h_drop (lset_call (i := 10) (j := 15) s7 rfl rfl x7.hn x7.nn okA (by decide) o.s1.1 (by have := o.s1.2; omega) fun H8 k8 h8 => ?_)
  have x8 := x7.now k8 h8
  have s8 := s7.re rfl x8.wb.bh
  have m8 := k8 _ _ m7 hnm.symm
  have ok1 : BOk 10 (setB (mkB d.args) d.first) := (setB_ok okA o.s1.1).mono (by have := o.s1.2; omega)
  refine h_asg ?_
  refine (show VE K _ (dl d A.w (.raw (.ref n)) .no (.raw (.ref m)) .no) (.list [strsD d.n1, strsD d.n0]) by walk_at "ve") B7 H8 B7 H8 σ7 s8 _ fun vb B9 H9 t9 d9 => ?_
  have s9 : S K B7 H8 B9 H9 (σ7.set 18 (some vb)) (dl d A.w (.raw (.ref n)) .no (.raw (.ref m)) (.val (.list [strsD d.n1, strsD d.n0]))) := (s8.step t9).val 18 d9
  have x9 := x8.step t9
  refine h_if ⟨_, s9.at_ 0 (.raw (.ref A.w)) rfl, A.w, dxw, _, rfl, x9.wb.wa, no_step _ _, step_call d.r1 d.i0 x9 (t9.h _ _ m8) (t9.out nm7 m8) hnm hmb sp10 okA (by decide) fun HA fA bA dxA xA => ⟨false, rfl, ?_⟩⟩
  refine iteF (h_next ?_)
  have sA := s9.re rfl xA.wb.bh
  have rowB : ∃ fn ∈ [f0, f1], fn.own = d.own1 ∧ fn.rows[u]? = some d.r1 := ⟨f1, by simp, o.o1, o.q1u⟩
  have rowC : ∃ fn ∈ [f0, f1], fn.own = d.own1 ∧ fn.rows[v]? = some d.r2 := ⟨f1, by simp, o.o1, o.q1v⟩
  have row0 : ∃ fn ∈ [f0, f1], fn.own = d.own0 ∧ fn.rows[0]? = some d.i0 := ⟨f0, by simp, o.o0, o.q00⟩
  have row1 : ∃ fn ∈ [f0, f1], fn.own = d.own0 ∧ fn.rows[1]? = some d.i1 := ⟨f0, by simp, o.o0, o.q01⟩
  have two : ∀ {H' : Hp} {r1 r0 : Fr} {k1 k0 : Nat}, H' n = some (.dK r1.kvs) → H' m = some (.dK r0.kvs) → r1.own = d.own1 → r0.own = d.own0 → BOk k1 r1.kvs → BOk k0 r0.kvs → ∀ (i : Nat) (r : Fr), [r1, r0][i]? = some r → Fits H' [f0, f1] d.bs [d.n1, d.n0] [n, m] i r := fun h1 h0 e1 e0 b1 b0 i r hr => by
    match i, hr with
    | 0, hr =>
      cases hr
      exact ⟨f1, n, _, by simp, o.o1.trans e1.symm, by rw [o.m1]; exact o.nd1, by rw [o.m1]; rfl, by rw [o.m1, o.l1, o.lb], rfl, h1, b1⟩
    | 1, hr =>
      cases hr
      exact ⟨f0, m, _, by simp, o.o0.trans e0.symm, by rw [o.m0]; exact o.nd0, by rw [o.m0]; rfl, by rw [o.m0, o.l0, o.lb], rfl, h0, b0⟩
  have so2 : ∀ {r1 r0 : Fr}, r1.own = d.own1 → r0.own = d.own0 → ∀ r ∈ [r1, r0], StrOk r.own := fun e1 e0 r hr => by
    rcases List.mem_cons.mp hr with z | z
    · rw [z, e1]
      exact o.so1
    · rw [List.mem_singleton.mp z, e0]
      exact o.so0
  refine h_if (st_call (frs := [⟨f, b, dxf, d.own1, u, d.r1, setB (mkB d.args) d.first⟩, ⟨fA, bA, dxA, d.own0, 0, d.i0, mkB (d.given.map (wr (mkB d.args)))⟩]) (nss := [d.n1, d.n0]) (nows := [n, m]) sA rfl rfl (show VE K _ (dl d A.w (.raw (.ref n)) .no (.raw (.ref m)) (.val (.list [strsD d.n1, strsD d.n0]))) (.list [.tuple [.str d.own1, .int d.r1], .tuple [.str d.own0, .int d.i0]]) by walk_at "ve") (ve_var (i := 18) rfl) (fun H' Q q => ⟨_, sA.at_ 15 (.raw (.ref n)) rfl, _, sA.at_ 17 (.raw (.ref m)) rfl, q⟩) (xA.wst rowB row0) (by simp) (by simp) (so2 rfl rfl) hbl (two xA.hn xA.hm rfl rfl ok1 okG) fun HB gB => ?_)
  refine iteF (h_next ?_)
  have xB := xA.grow gB
  have sB := sA.re rfl xB.wb.bh
  refine h_drop (lset_call (i := 11) (j := 17) sB rfl rfl xB.hm xB.nm okG (by decide) o.s3.1 (by have := o.s3.2; omega) fun HC kC hC => ?_)
  have xC := xB.new kC hC
  have sC := sB.re rfl xC.wb.bh
  have ok3 : BOk 10 (setB (mkB (d.given.map (wr (mkB d.args)))) d.third) := (setB_ok okG o.s3.1).mono (by have := o.s3.2; omega)
  refine h_if ⟨_, sC.at_ 0 (.raw (.ref A.w)) rfl, A.w, dxw, _, rfl, xC.wb.wa, no_step _ _, step_go d.i1 xC sp00 okG (by decide) fun HD xD => ⟨false, rfl, ?_⟩⟩
  refine iteF (h_next ?_)
  have sD := sC.re rfl xD.wb.bh
  refine h_if (st_call (frs := [⟨f, b, dxf, d.own1, u, d.r1, setB (mkB d.args) d.first⟩, ⟨fA, bA, dxA, d.own0, 1, d.i1, setB (mkB (d.given.map (wr (mkB d.args)))) d.third⟩]) (nss := [d.n1, d.n0]) (nows := [n, m]) sD rfl rfl (show VE K _ (dl d A.w (.raw (.ref n)) .no (.raw (.ref m)) (.val (.list [strsD d.n1, strsD d.n0]))) (.list [.tuple [.str d.own1, .int d.r1], .tuple [.str d.own0, .int d.i1]]) by walk_at "ve") (ve_var (i := 18) rfl) (fun H' Q q => ⟨_, sD.at_ 15 (.raw (.ref n)) rfl, _, sD.at_ 17 (.raw (.ref m)) rfl, q⟩) (xD.wst rowB row1) (by simp) (by simp) (so2 rfl rfl) hbl (two xD.hn xD.hm rfl rfl ok1 ok3) fun HE gE => ?_)
  refine iteF (h_next ?_)
  have xE := xD.grow gE
  have sE := sD.re rfl xE.wb.bh
  refine h_drop (lset_call (i := 12) (j := 15) sE rfl rfl xE.hn xE.nn ok1 (by decide) o.s2.1 (by have := o.s2.2; omega) fun HF kF hF => ?_)
  have xF := xE.now kF hF
  have sF := sE.re rfl xF.wb.bh
  have ok2 : BOk 14 (setB (setB (mkB d.args) d.first) d.second) := (setB_ok ok1 o.s2.1).mono (by have := o.s2.2; omega)
  refine h_ifput (i := 13) (j := 15) (bx := d.box) (x := wr (setB (mkB (d.given.map (wr (mkB d.args)))) d.third) d.a0) sF rfl rfl rfl xF.hn (Nat.le_trans ok2.len (by decide)) (fun Q q => worth_call (j := 17) sF (ve_op (ve_var (i := 14) rfl) ve_int (rd_ixL (i := 0) (ds := [rkD d.a0, rkD d.a1]) rfl)) rfl xF.hm ok3 o.a0 q) fun HG kG hG => ?_
  have xG := xF.now kG hG
  have sG := sF.re rfl xG.wb.bh
  obtain ⟨kz, ekz⟩ : ∃ kz, kz = putO (setB (setB (mkB d.args) d.first) d.second) (wr (setB (mkB (d.given.map (wr (mkB d.args)))) d.third) d.a0) d.box := ⟨_, rfl⟩
  have okz : BOk 15 kz := by
    rw [ekz]
    cases d.box with
    | none => exact ok2.mono (by decide)
    | some k => exact ok2.put k (wr_rng ok3 _ o.a0.1)
  refine h_if ⟨_, sG.at_ 0 (.raw (.ref A.w)) rfl, A.w, dxw, _, rfl, xG.wb.wa, no_step _ _, step_back d.r2 xG sp01 sp1u ok3 (by decide) ok1 (by decide) fun HI xI => ⟨false, rfl, ?_⟩⟩
  refine iteF (h_next ?_)
  have sI := sG.re rfl xI.wb.bh
  rw [← ekz] at xI
  refine h_if (h_or (st_call (frs := [⟨f, b, dxf, d.own1, v, d.r2, kz⟩]) (nss := [d.n1]) (nows := [n]) sI rfl rfl (show VE K _ (dl d A.w (.raw (.ref n)) .no (.raw (.ref m)) (.val (.list [strsD d.n1, strsD d.n0]))) (.list [.tuple [.str d.own1, .int d.r2]]) by walk_at "ve") (show VE K _ (dl d A.w (.raw (.ref n)) .no (.raw (.ref m)) (.val (.list [strsD d.n1, strsD d.n0]))) (.list [strsD d.n1]) by walk_at "ve") (fun H' Q q => ⟨_, sI.at_ 15 (.raw (.ref n)) rfl, q⟩) (xI.wst rowC) (by simp) (by simp) (fun r hr => by rw [List.mem_singleton.mp hr]; exact o.so1) hbl (fun i r hr => ?_) fun HJ gJ => ?_))
  · match i, hr with
    | 0, hr =>
      cases hr
      exact ⟨f1, n, 15, by simp, o.o1, by rw [o.m1]; exact o.nd1, by rw [o.m1]; rfl, by rw [o.m1, o.l1, o.lb], rfl, xI.hn, okz⟩
  refine iteF ?_
  have xJ := xI.grow gJ
  have sJ := sI.re rfl xJ.wb.bh
  refine ⟨_, sJ.at_ 0 (.raw (.ref A.w)) rfl, A.w, dxw, _, rfl, xJ.wb.wa, no_ended _ _, A, dxw, _, rfl, xJ.wb.wa, false, false, rfl, rfl, false, rfl, ?_⟩
  refine iteF (h_next ?_)
  refine h_if (h_or ⟨_, sJ.at_ 0 (.raw (.ref A.w)) rfl, A.w, dxw, _, rfl, xJ.wb.wa, no_step _ _, step_end xJ sp1v okz (by decide) fun HK wK stK nK => ⟨false, rfl, ?_⟩⟩)
  refine iteF (h_or ?_)
  have sK := sJ.re rfl wK.bh
  refine ⟨_, sK.at_ 0 (.raw (.ref A.w)) rfl, A.w, dxw, _, rfl, wK.wa, no_ended _ _, A, dxw, _, rfl, wK.wa, true, true, rfl, rfl, false, rfl, ?_⟩
  refine iteF ?_
  refine ⟨_, sK.at_ 0 (.raw (.ref A.w)) rfl, A.w, dxw, _, rfl, wK.wa, no_frames _ _, B9, A, dxw, [f0, f1], d.bs, _, [], rfl, ⟨wK, stK, (fun r hr => nomatch hr), (fun r hr => nomatch hr)⟩, by simp, fun vf BL HL tL dL => ?_⟩
  refine ⟨Nat.zero_le _, fun p hp => ?_⟩
  have bhp := same_upd (o := .lst []) tL.bh (tL.bh.free hp)
  refine ⟨.list [], .list [], dp_same bhp dL, .lst (SqL.of upd_same) .nil, by decide +kernel, by decide +kernel, false, by decide +kernel, ?_⟩
  refine iteF (h_next ?_)
  have gM : Same HK (upd HL p (.lst [])) := same_upd tL.h (tL.h.free hp)
  have wM := wK.same gM
  have sM := sK.re rfl wM.bh
  have nM := gM _ _ nK
  generalize upd HL p (.lst []) = HM at gM wM sM nM ⊢
  refine ⟨_, sM.at_ 0 (.raw (.ref A.w)) rfl, A.w, dxw, _, rfl, wM.wa, no_answer _ _, A, dxw, _, rfl, wM.wa, ?_⟩
  refine ⟨B9, [.int _], .bool true, wM.bh, .cons (.int _) .nil, ⟨_, rfl, rfl⟩, fun v2 BN HN tN dN => ?_⟩
  cases dN
  refine ⟨true, rfl, iteT ?_⟩
  have wN := wM.same tN.h
  have sN := sM.re rfl wN.bh
  refine ⟨_, sN.at_ 0 (.raw (.ref A.w)) rfl, A.w, dxw, _, rfl, wN.wa, no_answer _ _, A, dxw, _, rfl, wN.wa, ?_⟩
  refine worth_call (j := 15) sN (ve_op (ve_var (i := 14) rfl) ve_int (rd_ixL (i := 1) (ds := [rkD d.a0, rkD d.a1]) rfl)) rfl (tN.h _ _ nM) okz o.a1 fun BO HO tO => ?_
  refine ⟨rfl, ?_⟩
  rw [decide_eq_true rfl]
  exact q HO
end
end K37
/-! The law itself. -/
namespace K37
open PySem L2
/-- expressions whose readings are plain -/
local macro_rules | `(tactic| walk_at "ve") => `(tactic| first
  | exact ve_int | exact ve_str | exact ve_bl | exact ve_non | exact va_nil | exact vt_yes
  | exact ve_var rfl
  | (apply va_cons; (walk_at "ve"); (walk_at "ve"))
  | (apply ve_tup; (walk_at "ve"); (exact Nat.le_of_ble_eq_true rfl))
  | (apply VL.ve; apply vl_lst; (walk_at "ve"); (exact Nat.le_of_ble_eq_true rfl))
  | (apply ve_op; (walk_at "ve"); (walk_at "ve"); (walk_at "rd"))
  | (apply vt_test; (walk_at "ve"))
  | (apply vt_B; (walk_at "ve"))
  | (apply ve_notV; (walk_at "ve"))
  | (apply vt_not; (walk_at "ve"))
  | (apply vt_or; (walk_at "ve"); (intro _; (walk_at "ve")))
  | (apply vt_and; (walk_at "ve"); (intro _; (walk_at "ve")))
  | (apply ve_glob; first | exact Txt.dG (by assumption) | exact Txt.dA (by assumption)))
local macro_rules | `(tactic| walk_at "rd") => `(tactic| first
  | exact rd_int | exact rd_bool | exact rd_eqS | exact rd_eqI | exact rd_neI
  | exact rd_ixT rfl | exact rd_ixL rfl | exact rd_inT' rfl rfl | exact rd_inL' rfl rfl | exact rd_niT' rfl rfl | exact rd_niL' rfl rfl
  | (apply rd_intC; first | assumption | decide | (show (0 : Int) < _; decide) | (constructor <;> decide) | (constructor <;> first | decide | (constructor <;> decide))))
/-- an if whose test is known: no, on; yes, its return -/
local macro_rules | `(tactic| walk_at "no") => `(tactic| (apply xr_when; (walk_at "ve"); (intro h; exact absurd h (by decide +kernel)); intro _))
local macro_rules | `(tactic| walk_at "yes") => `(tactic| (apply xr_when; (walk_at "ve"); (intro _; apply xr_ret; (walk_at "ve")); (intro h; exact absurd h (by decide +kernel))))
local macro_rules | `(tactic| walk_at "ret") => `(tactic| (apply xr_ret; (walk_at "ve")))
local macro_rules | `(tactic| walk_at "set") => `(tactic| (apply xr_seq; (apply xn_set; (walk_at "ve"))))
/-! ### what it draws -/
def lBs (ns : List Int) : List Int := [0, 1, 2, 3, 4, 5, 6 + cellOf ns 3 % 61, 67 + cellOf ns 3 / 61 % 61]
def lBox (ns : List Int) : Option Int := if cellOf ns 20 % 3 = 2 then none else some ((lBs ns).getD (cellOf ns 20 / 2 % 8).toNat 0)
def deal (ns : List Int) : Deal where
  own0 := name_ (cellOf ns 0) 0
  own1 := name_ (cellOf ns 0) 1
  n0 := names (cellOf ns 1) 8
  n1 := names (cellOf ns 2) 8
  bs := lBs ns
  r0 := cellOf ns 10 / 2 % 4
  r1 := cellOf ns 10 / 8 % 4
  r2 := cellOf ns 11 % 4
  i0 := cellOf ns 11 / 4 % 4
  i1 := cellOf ns 11 / 16 % 4
  given := (List.range (cellOf ns 18 % 7).toNat).map fun k => some_ (cellOf ns (12 + k)) (lBs ns)
  first := sets_ (cellOf ns 18 / 7) (cellOf ns 19) (lBs ns)
  third := sets_ (cellOf ns 22) (cellOf ns 23) (lBs ns)
  second := sets_ (cellOf ns 20 / 2) (cellOf ns 21) (lBs ns)
  box := lBox ns
  a0 := some_ (cellOf ns 22 / 3) (lBs ns)
  a1 := some_ (cellOf ns 23 / 3) (lBs ns)
  args := (List.range 6).map fun k => numb (cellOf ns (4 + k))
def lMany (ns : List Int) : Nat := (cellOf ns 11 / 64 % 7).toNat
def lWait (ns : List Int) : Nat := (1 + cellOf ns 10 % 2).toNat
def spotsOf (d : Deal) (u : Nat) : List (Sets × Act) := if u = 2 then [(d.first, .call d.own0 d.given (u : Int)), ([], .back d.a1), (d.second, .wait d.box ((3 - u : Nat) : Int))] else [(d.first, .call d.own0 d.given (u : Int)), (d.second, .wait d.box ((3 - u : Nat) : Int)), ([], .back d.a1)]
def orderOf (d : Deal) (u : Nat) : List Int := if u = 2 then [d.r0, d.r2, d.r1] else [d.r0, d.r1, d.r2]
def fn0 (d : Deal) (many : Nat) : Fn := ⟨d.own0, d.n0, many, [(d.third, .go 1), ([], .back d.a0)], [d.i0, d.i1]⟩
def fn1 (d : Deal) (u : Nat) : Fn := ⟨d.own1, d.n1, 6, spotsOf d u, orderOf d u⟩
def lCells (ns : List Int) : List PyData := [.int (cellOf ns 0), .int (cellOf ns 1), .int (cellOf ns 2), .int (cellOf ns 3), .int (cellOf ns 4), .int (cellOf ns 5), .int (cellOf ns 6), .int (cellOf ns 7), .int (cellOf ns 8), .int (cellOf ns 9), .int (cellOf ns 10), .int (cellOf ns 11), .int (cellOf ns 12), .int (cellOf ns 13), .int (cellOf ns 14), .int (cellOf ns 15), .int (cellOf ns 16), .int (cellOf ns 17), .int (cellOf ns 18), .int (cellOf ns 19), .int (cellOf ns 20), .int (cellOf ns 21), .int (cellOf ns 22), .int (cellOf ns 23)]
theorem lCells_map (ns : List Int) : ((List.range 24).map fun k => PyData.int (cellOf ns k)) = lCells ns := rfl
theorem lCells_at (ns : List Int) {k : Nat} (h : k < 24) : atI (lCells ns) (k : Int) = some (.int (cellOf ns k)) := by
  rw [← lCells_map]
  exact getI (by rw [List.getElem?_map, List.getElem?_range h]; rfl)
theorem lCells_off (ns : List Int) (j k : Nat) (h : j + k < 24) : atI (lCells ns) ((j : Int) + (k : Int)) = some (.int (cellOf ns (j + k))) := by
  have e : (j : Int) + (k : Int) = ((j + k : Nat) : Int) := by omega
  rw [e]
  exact lCells_at ns h
theorem lWait_two (ns : List Int) : lWait ns = 1 ∨ lWait ns = 2 := by
  unfold lWait
  have h1 : 0 ≤ cellOf ns 10 % 2 := Int.emod_nonneg _ (by decide)
  have h2 : cellOf ns 10 % 2 < 2 := Int.emod_lt_of_pos _ (by decide)
  omega
theorem deal_ok (ns : List Int) : (deal ns).Ok (fn0 (deal ns) (lMany ns)) (fn1 (deal ns) (lWait ns)) (lWait ns) (3 - lWait ns) := by
  have hs : ∀ a o, (sets_ a o (lBs ns)).Ok ∧ (sets_ a o (lBs ns)).length ≤ 4 := fun a o => ⟨sets_ok a o _, sets_len a o _⟩
  have hg : cellOf ns 18 % 7 < 7 := Int.emod_lt_of_pos _ (by decide)
  have base : ∀ u : Nat, (u = 1 ∨ u = 2) → (deal ns).Ok (fn0 (deal ns) (lMany ns)) (fn1 (deal ns) u) u (3 - u) := fun u hu => by
    refine ⟨rfl, rfl, rfl, rfl, names_nodup _ (by decide), names_nodup _ (by decide), names_len _ _, names_len _ _, rfl, name_ok _ _, name_ok _ _, ?_, ?_, hs _ _, hs _ _, hs _ _, some_ok _ _, some_ok _ _, rfl, ?_, ?_, ?_, ?_, rfl, rfl, ?_, ?_, ?_, rfl, rfl⟩
    · show ((List.range (cellOf ns 18 % 7).toNat).map _).length ≤ 6
      rw [List.length_map, List.length_range]
      omega
    · intro t ht
      obtain ⟨k, _, rfl⟩ := List.mem_map.mp ht
      exact some_ok _ _
    · intro x hx
      obtain ⟨k, _, rfl⟩ := List.mem_map.mp hx
      exact numb_rng _
    all_goals rcases hu with rfl | rfl <;> rfl
  exact base _ (lWait_two ns)
theorem own_ne (ns : List Int) : (deal ns).own0 ≠ (deal ns).own1 := fun e => by
  have z := name_inj (c := cellOf ns 0) (i := 0) (j := 1) (by decide) (by decide) e
  cases z
theorem fn0_ok (ns : List Int) : (fn0 (deal ns) (lMany ns)).Ok := by
  have h2 : cellOf ns 11 / 64 % 7 < 7 := Int.emod_lt_of_pos _ (by decide)
  refine ⟨names_nodup _ (by decide), names_len _ _, by show (cellOf ns 11 / 64 % 7).toNat ≤ 7; omega, by show 2 ≤ 100; decide, by show 2 ≤ 100; decide, fun p hp => ?_⟩
  rcases List.mem_cons.mp hp with z | z
  · rw [z]
    exact Nat.le_trans (sets_len _ _ _) (by decide)
  · rw [List.mem_singleton.mp z]
    exact Nat.zero_le _
theorem fn1_ok (ns : List Int) : (fn1 (deal ns) (lWait ns)).Ok := by
  have h3 : ∀ u : Nat, (u = 1 ∨ u = 2) → (spotsOf (deal ns) u).length ≤ 100 ∧ (orderOf (deal ns) u).length ≤ 100 ∧ ∀ p ∈ spotsOf (deal ns) u, p.1.length ≤ 10 := fun u hu => by
    rcases hu with rfl | rfl
    · refine ⟨(by show 3 ≤ 100; decide), (by show 3 ≤ 100; decide), fun p hp => ?_⟩
      rcases List.mem_cons.mp hp with z | z
      · rw [z]
        exact Nat.le_trans (sets_len _ _ _) (by decide)
      rcases List.mem_cons.mp z with z | z
      · rw [z]
        exact Nat.le_trans (sets_len _ _ _) (by decide)
      · rw [List.mem_singleton.mp z]
        exact Nat.zero_le _
    · refine ⟨(by show 3 ≤ 100; decide), (by show 3 ≤ 100; decide), fun p hp => ?_⟩
      rcases List.mem_cons.mp hp with z | z
      · rw [z]
        exact Nat.le_trans (sets_len _ _ _) (by decide)
      rcases List.mem_cons.mp z with z | z
      · rw [z]
        exact Nat.zero_le _
      · rw [List.mem_singleton.mp z]
        exact Nat.le_trans (sets_len _ _ _) (by decide)
  obtain ⟨a, b, c⟩ := h3 _ (lWait_two ns)
  exact ⟨names_nodup _ (by decide), names_len _ _, by show 6 ≤ 7; decide, a, b, c⟩
section
variable {P : Program} {w : World} {K : PySem.W.Frag} {mg : Str → Option Value} {base : Heap} {aG aA : Addr} {δ : List Slot}
/-- a list of the def's own, from now on it stands still -/
theorem S.freeze {B0 H0 B H : Hp} {σ : L2.St} {i : Nat} {ds : List PyData} (s : S K B0 H0 B H σ δ) (h : δ[i]? = some (.ml ds)) (ho : oneMl δ i = true) : ∃ B', Same B B' ∧ S K B0 H0 B' H σ (δ.set i (.val (.list ds))) := by
  obtain ⟨l, xs, e, h1, h2, h3, h4⟩ := s.at_ i _ h
  have sm : Same B (upd B l (.lst xs)) := same_upd (Same.refl B) h3
  refine ⟨_, sm, s.tr.still h4 h3 h1, by rw [List.length_set]; exact s.len, fun j x hj => ?_⟩
  rw [List.getElem?_set] at hj
  by_cases q : i = j
  · subst q
    rw [if_pos rfl] at hj
    by_cases z : i < δ.length
    · rw [if_pos z] at hj
      cases hj
      exact ⟨_, e, .lst (SqL.of upd_same) (dps_same sm h2)⟩
    · rw [if_neg z] at hj
      cases hj
  · rw [if_neg q] at hj
    have y := s.at_ j x hj
    cases x with
    | no => trivial
    | raw v => exact y
    | val d =>
      obtain ⟨v, e, dv⟩ := y
      exact ⟨v, e, dp_same sm dv⟩
    | ml zs => exact absurd (oneMl_ne ho hj).symm q
    | fact φ => exact absurd (oneMl_no ho hj).symm q
def spLaw (K : PySem.W.Frag) : Sp := fun vs H Q _ => ∃ (a : Addr) (ns : List Int), vs = [.ref a] ∧ SqL K H a (ns.map V.int) ∧ ns.length ≤ 63 ∧ ∀ H', Q (.bl true) H'
theorem ints_dp {B : Hp} : ∀ ns : List Int, DpAll K B (ns.map V.int) (ns.map PyData.int)
  | [] => .nil
  | n :: ns => .cons (.int n) (ints_dp ns)
end
end K37
/-! The law's def. -/
namespace K37
open PySem L2
/-- expressions whose readings are plain -/
local macro_rules | `(tactic| walk_at "ve") => `(tactic| first
  | exact ve_int | exact ve_str | exact ve_bl | exact ve_non | exact va_nil | exact vt_yes
  | exact ve_var rfl
  | (apply va_cons; (walk_at "ve"); (walk_at "ve"))
  | (apply ve_tup; (walk_at "ve"); (exact Nat.le_of_ble_eq_true rfl))
  | (apply VL.ve; apply vl_lst; (walk_at "ve"); (exact Nat.le_of_ble_eq_true rfl))
  | (apply ve_op; (walk_at "ve"); (walk_at "ve"); (walk_at "rd"))
  | (apply vt_test; (walk_at "ve"))
  | (apply vt_B; (walk_at "ve"))
  | (apply ve_notV; (walk_at "ve"))
  | (apply vt_not; (walk_at "ve"))
  | (apply vt_or; (walk_at "ve"); (intro _; (walk_at "ve")))
  | (apply vt_and; (walk_at "ve"); (intro _; (walk_at "ve")))
  | (apply ve_glob; first | exact Txt.dG (by assumption) | exact Txt.dA (by assumption)))
local macro_rules | `(tactic| walk_at "rd") => `(tactic| first
  | exact rd_int | exact rd_bool | exact rd_eqS | exact rd_eqI | exact rd_neI
  | exact rd_ixT rfl | exact rd_ixL rfl | exact rd_inT' rfl rfl | exact rd_inL' rfl rfl | exact rd_niT' rfl rfl | exact rd_niL' rfl rfl
  | (apply rd_intC; first | assumption | decide | (show (0 : Int) < _; decide) | (constructor <;> decide) | (constructor <;> first | decide | (constructor <;> decide))))
/-- an if whose test is known: no, on; yes, its return -/
local macro_rules | `(tactic| walk_at "no") => `(tactic| (apply xr_when; (walk_at "ve"); (intro h; exact absurd h (by decide +kernel)); intro _))
local macro_rules | `(tactic| walk_at "yes") => `(tactic| (apply xr_when; (walk_at "ve"); (intro _; apply xr_ret; (walk_at "ve")); (intro h; exact absurd h (by decide +kernel))))
local macro_rules | `(tactic| walk_at "ret") => `(tactic| (apply xr_ret; (walk_at "ve")))
local macro_rules | `(tactic| walk_at "set") => `(tactic| (apply xr_seq; (apply xn_set; (walk_at "ve"))))
section
variable {P : Program} {w : World} {K : PySem.W.Frag} {mg : Str → Option Value} {base : Heap} {aG aA : Addr} {δ : List Slot}
theorem h_set {te : TE} {tz : TS} {D : Ends} {d : PyData} {i : Nat} {B0 H0 B H : Hp} {σ : L2.St} (s : S K B0 H0 B H σ δ) (v : VE K te δ d) (q : ∀ B' H' σ', S K B0 H0 B' H' σ' (δ.set i (.val d)) → tz D σ' H') : tSeq (tAsg te (gName i)) tz D σ H :=
  h_asg (v B0 H0 B H σ s _ fun v B1 H1 t1 d1 => q _ _ _ ((s.step t1).val i d1))
theorem sc_law : FnScope ["_law_script", "_law_cells", "_law_k", "_law_own", "_law_names_here", "_law_boxes", "_law_args", "_law_wait", "_law_row", "_law_inner", "_law_given", "_law_first", "_law_second", "_law_box", "_law_third", "_law_answers", "_law_spots", "_law_order", "_law_there", "_law_program", "_law_table", "_law_walker"] ["_law_script"] (defScope s_law) := ⟨rfl, rfl, rfl, by decide +kernel, rfl, by decide +kernel, by decide +kernel⟩
theorem box_at (ns : List Int) : atI [PyData.int ((lBs ns).getD (cellOf ns 20 / 2 % 8).toNat 0), .int ((lBs ns).getD (cellOf ns 20 / 2 % 8).toNat 0), .none] (cellOf ns 20 % 3) = some (optD (lBox ns)) := by
  have z := mod_lt (a := cellOf ns 20) (b := 3) (by decide)
  have h : cellOf ns 20 % 3 = 0 ∨ cellOf ns 20 % 3 = 1 ∨ cellOf ns 20 % 3 = 2 := by omega
  unfold lBox
  rcases h with h | h | h
  · rw [h]
    rfl
  · rw [h]
    rfl
  · rw [h]
    rfl
theorem ok_law {f CF CW : Addr} {fd : FuncData} (F : Fun K "law" "law" s_law f fd) (T : Txt K mg aG aA) (c_lcell_at : C8.Cal P w K mg base 1 "_law_cell_at" (spD K R_cell) []) (c_lnames : C8.Cal P w K mg base 1 "_law_names" (spD K R_lnames) []) (c_lnumber : C8.Cal P w K mg base 1 "_law_number" (spD K R_numb) []) (c_lsome : C8.Cal P w K mg base 1 "_law_some" (spD K R_some) [])
    (c_lsets : C8.Cal P w K mg base 2 "_law_sets" (spD K R_sets) []) (c_lfunction : C8.Cal P w K mg base 1 "_law_function" (spD K R_fun) []) (c_lmarks : C8.Cal P w K mg base 1 "_law_marks" (spD K R_marks) []) (k_CodeWalker : C8.Mak P w K mg base 4 "CodeWalker" CW (spCw K CF CW) []) (c_lwalked : C8.Cal P w K mg base 10 "_law_walked" (spWalked K CF CW) []) :
    FnOk P w K mg base CX0 11 f fd ["_law_script"] (spLaw K) := by
  have nd := sc_law.nd
  refine F.ok sc_law (fun vs H Q E h => ?_) (fun cdv Ar outer s H vs Q E hr h => ?_)
  · obtain ⟨_, _, rfl, _⟩ := h
    rfl
  obtain ⟨a, ns, rfl, sq, hns, q⟩ := h
  refine ⟨_, (pss_cons (ps_set (i := 1) nd rfl (Or.inr rfl) (pe_lc (own := [("_law_k", 2)]) (g := (gName 2)) (tt := tYes) rfl nd (pi_range1 (by rfl) T.range_ (pa_cons pe_int pa_nil)) (blkOk_by (own := [("_law_k", 2)]) (N := ["_law_script", "_law_cells", "_law_k", "_law_own", "_law_names_here", "_law_boxes", "_law_args", "_law_wait", "_law_row", "_law_inner", "_law_given", "_law_first", "_law_second", "_law_box", "_law_third", "_law_answers", "_law_spots", "_law_order", "_law_there", "_law_program", "_law_table", "_law_walker"]) (by kernel_rfl)) (fun _ _ _ _ _ => (pg_name (i := 2) nd rfl (Or.inl rfl))) (fun _ _ _ _ _ => pts_nil) (fun _ _ _ _ _ => (C8.pe_c c_lcell_at hr (by omega) (by rfl) (pa_cons (pv 0) (pa_cons (pv 2) pa_nil))))))
    (pss_cons (ps_set (i := 3) nd rfl (Or.inl rfl) (C8.pe_c c_lnames hr (by omega) (by rfl) (pa_cons (pe_ix ix_list (pv 1) pe_int (fun _ _ => rfl)) (pa_cons pe_int pa_nil))))
    (pss_cons (ps_set (i := 4) nd rfl (Or.inl rfl) (pe_lst (pa_cons (C8.pe_c c_lnames hr (by omega) (by rfl) (pa_cons (pe_ix ix_list (pv 1) pe_int (fun _ _ => rfl)) (pa_cons pe_int pa_nil))) (pa_cons (C8.pe_c c_lnames hr (by omega) (by rfl) (pa_cons (pe_ix ix_list (pv 1) pe_int (fun _ _ => rfl)) (pa_cons pe_int pa_nil))) pa_nil))))
    (pss_cons (ps_set (i := 5) nd rfl (Or.inr rfl) (pe_lst (pa_cons pe_int (pa_cons pe_int (pa_cons pe_int (pa_cons pe_int (pa_cons pe_int (pa_cons pe_int (pa_cons (pe_op op_add pe_int (pe_op op_mod (pe_ix ix_list (pv 1) pe_int (fun _ _ => rfl)) pe_int)) (pa_cons (pe_op op_add pe_int (pe_op op_mod (pe_op op_fdiv (pe_ix ix_list (pv 1) pe_int (fun _ _ => rfl)) pe_int) pe_int)) pa_nil))))))))))
    (pss_cons (ps_setLc (i := 6) (own := [("_law_k", 2)]) (g := (gName 2)) (tt := tYes) (by rfl) nd rfl rfl (sw_true rfl rfl rfl (by decide +kernel)) (pi_range1 (by rfl) T.range_ (pa_cons pe_int pa_nil)) (blkOk_by (own := [("_law_k", 2)]) (N := ["_law_script", "_law_cells", "_law_k", "_law_own", "_law_names_here", "_law_boxes", "_law_args", "_law_wait", "_law_row", "_law_inner", "_law_given", "_law_first", "_law_second", "_law_box", "_law_third", "_law_answers", "_law_spots", "_law_order", "_law_there", "_law_program", "_law_table", "_law_walker"]) (by kernel_rfl)) (fun _ _ _ _ _ => (pg_name (i := 2) nd rfl (Or.inl rfl))) (fun _ _ _ _ _ => pts_nil) (fun _ _ _ _ _ => (C8.pe_c c_lnumber hr (by omega) (by rfl) (pa_cons (pe_ix (ix_listK (K := K) rfl) (pv 1) (pe_op op_add pe_int (pv 2)) (fun _ _ => rfl)) pa_nil))))
    (pss_cons (ps_set (i := 7) nd rfl (Or.inl rfl) (pe_op op_add pe_int (pe_op op_mod (pe_ix ix_list (pv 1) pe_int (fun _ _ => rfl)) pe_int)))
    (pss_cons (ps_set (i := 8) nd rfl (Or.inl rfl) (pe_lst (pa_cons (pe_op op_mod (pe_op op_fdiv (pe_ix ix_list (pv 1) pe_int (fun _ _ => rfl)) pe_int) pe_int) (pa_cons (pe_op op_mod (pe_op op_fdiv (pe_ix ix_list (pv 1) pe_int (fun _ _ => rfl)) pe_int) pe_int) (pa_cons (pe_op op_mod (pe_ix ix_list (pv 1) pe_int (fun _ _ => rfl)) pe_int) pa_nil)))))
    (pss_cons (ps_set (i := 9) nd rfl (Or.inl rfl) (pe_lst (pa_cons (pe_op op_mod (pe_op op_fdiv (pe_ix ix_list (pv 1) pe_int (fun _ _ => rfl)) pe_int) pe_int) (pa_cons (pe_op op_mod (pe_op op_fdiv (pe_ix ix_list (pv 1) pe_int (fun _ _ => rfl)) pe_int) pe_int) pa_nil))))
    (pss_cons (ps_setLc (i := 10) (own := [("_law_k", 2)]) (g := (gName 2)) (tt := tYes) (by rfl) nd rfl rfl (sw_true rfl rfl rfl (by decide +kernel)) (pi_range1 (by rfl) T.range_ (pa_cons (pe_op op_mod (pe_ix ix_list (pv 1) pe_int (fun _ _ => rfl)) pe_int) pa_nil)) (blkOk_by (own := [("_law_k", 2)]) (N := ["_law_script", "_law_cells", "_law_k", "_law_own", "_law_names_here", "_law_boxes", "_law_args", "_law_wait", "_law_row", "_law_inner", "_law_given", "_law_first", "_law_second", "_law_box", "_law_third", "_law_answers", "_law_spots", "_law_order", "_law_there", "_law_program", "_law_table", "_law_walker"]) (by kernel_rfl)) (fun _ _ _ _ _ => (pg_name (i := 2) nd rfl (Or.inl rfl))) (fun _ _ _ _ _ => pts_nil) (fun _ _ _ _ _ => (C8.pe_c c_lsome hr (by omega) (by rfl) (pa_cons (pe_ix (ix_listK (K := K) rfl) (pv 1) (pe_op op_add pe_int (pv 2)) (fun _ _ => rfl)) (pa_cons (pv 5) pa_nil)))))
    (pss_cons (ps_set (i := 11) nd rfl (Or.inl rfl) (C8.pe_c c_lsets hr (by omega) (by rfl) (pa_cons (pe_op op_fdiv (pe_ix ix_list (pv 1) pe_int (fun _ _ => rfl)) pe_int) (pa_cons (pe_ix ix_list (pv 1) pe_int (fun _ _ => rfl)) (pa_cons (pv 5) pa_nil)))))
    (pss_cons (ps_set (i := 12) nd rfl (Or.inl rfl) (C8.pe_c c_lsets hr (by omega) (by rfl) (pa_cons (pe_op op_fdiv (pe_ix ix_list (pv 1) pe_int (fun _ _ => rfl)) pe_int) (pa_cons (pe_ix ix_list (pv 1) pe_int (fun _ _ => rfl)) (pa_cons (pv 5) pa_nil)))))
    (pss_cons (ps_set (i := 13) nd rfl (Or.inl rfl) (pe_ix ix_list (pe_lst (pa_cons (pe_ix ix_list (pv 5) (pe_op op_mod (pe_op op_fdiv (pe_ix ix_list (pv 1) pe_int (fun _ _ => rfl)) pe_int) pe_int) (fun _ _ => rfl)) (pa_cons (pe_ix ix_list (pv 5) (pe_op op_mod (pe_op op_fdiv (pe_ix ix_list (pv 1) pe_int (fun _ _ => rfl)) pe_int) pe_int) (fun _ _ => rfl)) (pa_cons pe_non pa_nil)))) (pe_op op_mod (pe_ix ix_list (pv 1) pe_int (fun _ _ => rfl)) pe_int) (fun _ _ => rfl)))
    (pss_cons (ps_set (i := 14) nd rfl (Or.inl rfl) (C8.pe_c c_lsets hr (by omega) (by rfl) (pa_cons (pe_ix ix_list (pv 1) pe_int (fun _ _ => rfl)) (pa_cons (pe_ix ix_list (pv 1) pe_int (fun _ _ => rfl)) (pa_cons (pv 5) pa_nil)))))
    (pss_cons (ps_set (i := 15) nd rfl (Or.inl rfl) (pe_lst (pa_cons (C8.pe_c c_lsome hr (by omega) (by rfl) (pa_cons (pe_op op_fdiv (pe_ix ix_list (pv 1) pe_int (fun _ _ => rfl)) pe_int) (pa_cons (pv 5) pa_nil))) (pa_cons (C8.pe_c c_lsome hr (by omega) (by rfl) (pa_cons (pe_op op_fdiv (pe_ix ix_list (pv 1) pe_int (fun _ _ => rfl)) pe_int) (pa_cons (pv 5) pa_nil))) pa_nil))))
    (pss_cons (ps_set (i := 16) nd rfl (Or.inl rfl) (pe_lst (pa_cons (pe_tup (pa_cons (pv 11) (pa_cons (pe_tup (pa_cons pe_str (pa_cons (pe_ix ix_list (pv 3) pe_int (fun _ _ => rfl)) (pa_cons (pe_callTy call_tuple_of (by rfl) T.tuple_ (by decide +kernel) (pa_cons (pv 10) pa_nil)) (pa_cons (pv 7) pa_nil))))) pa_nil))) (pa_cons (pe_tup (pa_cons (pv 12) (pa_cons (pe_tup (pa_cons pe_str (pa_cons (pv 13) (pa_cons (pe_op op_sub pe_int (pv 7)) pa_nil)))) pa_nil))) pa_nil))))
    (pss_cons (ps_expr (pe_bm PySem.F.plainAttrs_list PySem.F.slot_list_append PySem.F.type_list_append mt_append (pv 16) (pa_cons (pe_tup (pa_cons (pe_lst pa_nil) (pa_cons (pe_tup (pa_cons pe_str (pa_cons (pe_ix ix_list (pv 15) pe_int (fun _ _ => rfl)) pa_nil))) pa_nil))) pa_nil)))
    (pss_cons (ps_set (i := 17) nd rfl (Or.inl rfl) (pe_lst (pa_cons (pe_ix ix_list (pv 8) pe_int (fun _ _ => rfl)) (pa_cons (pe_ix ix_list (pv 8) pe_int (fun _ _ => rfl)) (pa_cons (pe_ix ix_list (pv 8) pe_int (fun _ _ => rfl)) pa_nil)))))
    (pss_cons (ps_if (pt_cmpR op_eq (pv 7) pe_int (nomark _)) (pss_cons (ps_set (i := 16) nd rfl (Or.inl rfl) (pe_lst (pa_cons (pe_ix ix_list (pv 16) pe_int (fun _ _ => rfl)) (pa_cons (pe_ix ix_list (pv 16) pe_int (fun _ _ => rfl)) (pa_cons (pe_ix ix_list (pv 16) pe_int (fun _ _ => rfl)) pa_nil))))) (pss_one (ps_set (i := 17) nd rfl (Or.inl rfl) (pe_lst (pa_cons (pe_ix ix_list (pv 8) pe_int (fun _ _ => rfl)) (pa_cons (pe_ix ix_list (pv 8) pe_int (fun _ _ => rfl)) (pa_cons (pe_ix ix_list (pv 8) pe_int (fun _ _ => rfl)) pa_nil))))))) pss_nil)
    (pss_cons (ps_set (i := 18) nd rfl (Or.inl rfl) (pe_lst (pa_cons (pe_tup (pa_cons (pv 14) (pa_cons (pe_tup (pa_cons pe_str (pa_cons pe_int pa_nil))) pa_nil))) (pa_cons (pe_tup (pa_cons (pe_lst pa_nil) (pa_cons (pe_tup (pa_cons pe_str (pa_cons (pe_ix ix_list (pv 15) pe_int (fun _ _ => rfl)) pa_nil))) pa_nil))) pa_nil))))
    (pss_cons (ps_set (i := 19) nd rfl (Or.inl rfl) (pe_lst (pa_cons (C8.pe_c c_lfunction hr (by omega) (by rfl) (pa_cons (pe_ix ix_list (pv 3) pe_int (fun _ _ => rfl)) (pa_cons (pe_ix ix_list (pv 4) pe_int (fun _ _ => rfl)) (pa_cons (pe_op op_mod (pe_op op_fdiv (pe_ix ix_list (pv 1) pe_int (fun _ _ => rfl)) pe_int) pe_int) (pa_cons pe_bl pa_nil))))) (pa_cons (C8.pe_c c_lfunction hr (by omega) (by rfl) (pa_cons (pe_ix ix_list (pv 3) pe_int (fun _ _ => rfl)) (pa_cons (pe_ix ix_list (pv 4) pe_int (fun _ _ => rfl)) (pa_cons pe_int (pa_cons pe_bl pa_nil))))) pa_nil))))
    (pss_cons (ps_set (i := 20) nd rfl (Or.inl rfl) (pe_lst (pa_cons (pe_tup (pa_cons (pe_ix ix_list (pv 3) pe_int (fun _ _ => rfl)) (pa_cons (C8.pe_c c_lmarks hr (by omega) (by rfl) (pa_cons (pv 9) (pa_cons (pe_ix ix_list (pv 3) pe_int (fun _ _ => rfl)) (pa_cons (pv 5) pa_nil)))) pa_nil))) (pa_cons (pe_tup (pa_cons (pe_ix ix_list (pv 3) pe_int (fun _ _ => rfl)) (pa_cons (C8.pe_c c_lmarks hr (by omega) (by rfl) (pa_cons (pv 17) (pa_cons (pe_ix ix_list (pv 3) pe_int (fun _ _ => rfl)) (pa_cons (pv 5) pa_nil)))) pa_nil))) pa_nil))))
    (pss_cons (ps_set (i := 21) nd rfl (Or.inl rfl) (C8.pe_mk k_CodeWalker hr (by omega) (by rfl) (pa_cons (pv 19) (pa_cons (pe_lst (pa_cons (pe_tup (pa_cons (pe_ix ix_list (pv 3) pe_int (fun _ _ => rfl)) (pa_cons (pv 18) pa_nil))) (pa_cons (pe_tup (pa_cons (pe_ix ix_list (pv 3) pe_int (fun _ _ => rfl)) (pa_cons (pv 16) pa_nil))) pa_nil))) (pa_cons (pv 20) (pa_cons (pv 6) pa_nil))))))
    (pss_one (ps_ret (C8.pe_c c_lwalked hr (by omega) (by rfl) (pa_cons (pv 21) (pa_cons (pe_lst (pa_cons (pv 3) (pa_cons (pv 4) (pa_cons (pv 5) (pa_cons (pv 8) (pa_cons (pv 9) pa_nil)))))) (pa_cons (pe_lst (pa_cons (pv 10) (pa_cons (pv 11) (pa_cons (pv 14) (pa_cons (pv 12) (pa_cons (pv 13) (pa_cons (pv 15) pa_nil))))))) (pa_cons (pv 6) pa_nil))))))))))))))))))))))))))))), ?_⟩
  obtain ⟨u, hu⟩ : ∃ u, u = lWait ns := ⟨_, rfl⟩
  have hu2 : u = 1 ∨ u = 2 := by
    rw [hu]
    exact lWait_two ns
  have hw : 1 + cellOf ns 10 % 2 = (u : Int) := by
    have h1 : 0 ≤ cellOf ns 10 % 2 := Int.emod_nonneg _ (by decide)
    rw [hu]
    unfold lWait
    omega
  have hmany : cellOf ns 11 / 64 % 7 = (lMany ns : Int) := by
    have h1 : 0 ≤ cellOf ns 11 / 64 % 7 := Int.emod_nonneg _ (by decide)
    unfold lMany
    omega
  obtain ⟨gn, hgn⟩ : ∃ gn : Nat, gn = (cellOf ns 18 % 7).toNat := ⟨_, rfl⟩
  have hg : cellOf ns 18 % 7 = (gn : Int) ∧ gn ≤ 6 := by
    have h1 := mod_lt (a := cellOf ns 18) (b := 7) (by decide)
    omega
  have dok : (deal ns).Ok (fn0 (deal ns) (lMany ns)) (fn1 (deal ns) u) u (3 - u) := by
    rw [hu]
    exact deal_ok ns
  have ordl : (orderOf (deal ns) u).length ≤ 10 := by
    rcases hu2 with e | e <;> rw [e] <;> exact Nat.le_of_ble_eq_true rfl
  have f1ok : (fn1 (deal ns) u).Ok := by
    rw [hu]
    exact fn1_ok ns
  have s0 : S K H H H H (L2.start ["_law_script", "_law_cells", "_law_k", "_law_own", "_law_names_here", "_law_boxes", "_law_args", "_law_wait", "_law_row", "_law_inner", "_law_given", "_law_first", "_law_second", "_law_box", "_law_third", "_law_answers", "_law_spots", "_law_order", "_law_there", "_law_program", "_law_table", "_law_walker"] [.ref a]) [.val (intsD ns), .no, .no, .no, .no, .no, .no, .no, .no, .no, .no, .no, .no, .no, .no, .no, .no, .no, .no, .no, .no, .no] := start_SS (Same.refl H) (.vl (.lst sq (ints_dp ns)) .nil)
  generalize L2.start ["_law_script", "_law_cells", "_law_k", "_law_own", "_law_names_here", "_law_boxes", "_law_args", "_law_wait", "_law_row", "_law_inner", "_law_given", "_law_first", "_law_second", "_law_box", "_law_third", "_law_answers", "_law_spots", "_law_order", "_law_there", "_law_program", "_law_table", "_law_walker"] [.ref a] = σ0 at s0 ⊢
  refine h_set (i := 1) (d := .list (lCells ns)) s0 ((vl_lc (List.range 24) (fun (k : Nat) => PyData.int (k : Int)) (fun k => PyData.int (cellOf ns k)) (vi_range (n := 24) (va_cons (ve_eq ve_int rfl) va_nil) (by decide)) (by decide) fun k hk => ⟨_, _, fun i hi => hi, xg_name, vt_yes, ve_call (va_cons (ve_var (i := 0) rfl) (va_cons (ve_var (i := 2) rfl) va_nil)) ⟨ns, k, rfl, rfl⟩⟩).ve) fun B1 H1 σ1 s1 => ?_
  have s1 : S K H H B1 H1 σ1 [.val (intsD ns), .val (.list (lCells ns)), .no, .no, .no, .no, .no, .no, .no, .no, .no, .no, .no, .no, .no, .no, .no, .no, .no, .no, .no, .no] := s1
  refine h_set (i := 3) (d := strsD [(deal ns).own0, (deal ns).own1]) s1 (ve_call (va_cons (show VE K _ _ (.int (cellOf ns 0)) by walk_at "ve") (va_cons (ve_eq ve_int rfl) va_nil)) ⟨cellOf ns 0, 2, rfl, by decide, rfl⟩) fun B2 H2 σ2 s2 => ?_
  have s2 : S K H H B2 H2 σ2 [.val (intsD ns), .val (.list (lCells ns)), .no, .val (strsD [(deal ns).own0, (deal ns).own1]), .no, .no, .no, .no, .no, .no, .no, .no, .no, .no, .no, .no, .no, .no, .no, .no, .no, .no] := s2
  refine h_set (i := 4) (d := (deal ns).namesD) s2 ((vl_lst (va_cons (ve_call (va_cons (show VE K _ _ (.int (cellOf ns 1)) by walk_at "ve") (va_cons (ve_eq ve_int rfl) va_nil)) ⟨cellOf ns 1, 8, rfl, by decide, rfl⟩) (va_cons (ve_call (va_cons (show VE K _ _ (.int (cellOf ns 2)) by walk_at "ve") (va_cons (ve_eq ve_int rfl) va_nil)) ⟨cellOf ns 2, 8, rfl, by decide, rfl⟩) va_nil)) (Nat.le_of_ble_eq_true rfl)).ve) fun B3 H3 σ3 s3 => ?_
  have s3 : S K H H B3 H3 σ3 [.val (intsD ns), .val (.list (lCells ns)), .no, .val (strsD [(deal ns).own0, (deal ns).own1]), .val ((deal ns).namesD), .no, .no, .no, .no, .no, .no, .no, .no, .no, .no, .no, .no, .no, .no, .no, .no, .no] := s3
  refine h_set (i := 5) (d := intsD (deal ns).bs) s3 ((show VE K _ _ (.list [.int 0, .int 1, .int 2, .int 3, .int 4, .int 5, .int (6 + cellOf ns 3 % 61), .int (67 + cellOf ns 3 / 61 % 61)]) by walk_at "ve")) fun B4 H4 σ4 s4 => ?_
  have s4 : S K H H B4 H4 σ4 [.val (intsD ns), .val (.list (lCells ns)), .no, .val (strsD [(deal ns).own0, (deal ns).own1]), .val ((deal ns).namesD), .val (intsD (deal ns).bs), .no, .no, .no, .no, .no, .no, .no, .no, .no, .no, .no, .no, .no, .no, .no, .no] := s4
  refine h_set (i := 6) (d := intsD (deal ns).args) s4 ((vl_lc (List.range 6) (fun (k : Nat) => PyData.int (k : Int)) (fun k => PyData.int (numb (cellOf ns (4 + k)))) (vi_range (n := 6) (va_cons (ve_eq ve_int rfl) va_nil) (by decide)) (by decide) fun k hk => ⟨_, _, fun i hi => hi, xg_name, vt_yes, ve_call (va_cons (ve_op (ve_var (i := 1) rfl) (ve_op ve_int (ve_var (i := 2) rfl) rd_int) (rd_ixL (i := 4 + (k : Int)) (lCells_off ns 4 k (by have := List.mem_range.mp hk; omega)))) va_nil) ⟨_, rfl, rfl⟩⟩).ve) fun B5 H5 σ5 s5 => ?_
  have s5 : S K H H B5 H5 σ5 [.val (intsD ns), .val (.list (lCells ns)), .no, .val (strsD [(deal ns).own0, (deal ns).own1]), .val ((deal ns).namesD), .val (intsD (deal ns).bs), .val (intsD (deal ns).args), .no, .no, .no, .no, .no, .no, .no, .no, .no, .no, .no, .no, .no, .no, .no] := s5
  refine h_set (i := 7) (d := .int (u : Int)) s5 (ve_eq (d := .int (1 + cellOf ns 10 % 2)) (by walk_at "ve") (congrArg PyData.int hw)) fun B6 H6 σ6 s6 => ?_
  have s6 : S K H H B6 H6 σ6 [.val (intsD ns), .val (.list (lCells ns)), .no, .val (strsD [(deal ns).own0, (deal ns).own1]), .val ((deal ns).namesD), .val (intsD (deal ns).bs), .val (intsD (deal ns).args), .val (.int (u : Int)), .no, .no, .no, .no, .no, .no, .no, .no, .no, .no, .no, .no, .no, .no] := s6
  refine h_set (i := 8) (d := intsD [(deal ns).r0, (deal ns).r1, (deal ns).r2]) s6 ((show VE K _ _ (.list [.int (cellOf ns 10 / 2 % 4), .int (cellOf ns 10 / 8 % 4), .int (cellOf ns 11 % 4)]) by walk_at "ve")) fun B7 H7 σ7 s7 => ?_
  have s7 : S K H H B7 H7 σ7 [.val (intsD ns), .val (.list (lCells ns)), .no, .val (strsD [(deal ns).own0, (deal ns).own1]), .val ((deal ns).namesD), .val (intsD (deal ns).bs), .val (intsD (deal ns).args), .val (.int (u : Int)), .val (intsD [(deal ns).r0, (deal ns).r1, (deal ns).r2]), .no, .no, .no, .no, .no, .no, .no, .no, .no, .no, .no, .no, .no] := s7
  refine h_set (i := 9) (d := intsD [(deal ns).i0, (deal ns).i1]) s7 ((show VE K _ _ (.list [.int (cellOf ns 11 / 4 % 4), .int (cellOf ns 11 / 16 % 4)]) by walk_at "ve")) fun B8 H8 σ8 s8 => ?_
  have s8 : S K H H B8 H8 σ8 [.val (intsD ns), .val (.list (lCells ns)), .no, .val (strsD [(deal ns).own0, (deal ns).own1]), .val ((deal ns).namesD), .val (intsD (deal ns).bs), .val (intsD (deal ns).args), .val (.int (u : Int)), .val (intsD [(deal ns).r0, (deal ns).r1, (deal ns).r2]), .val (intsD [(deal ns).i0, (deal ns).i1]), .no, .no, .no, .no, .no, .no, .no, .no, .no, .no, .no, .no] := s8
  refine h_set (i := 10) (d := .list ((deal ns).given.map rkD)) s8 (ve_eq (vl_lc (List.range gn) (fun (k : Nat) => PyData.int (k : Int)) (fun k => rkD (some_ (cellOf ns (12 + k)) (lBs ns))) (vi_range (n := gn) (va_cons (ve_eq (d := .int (cellOf ns 18 % 7)) (by walk_at "ve") (congrArg PyData.int hg.1)) va_nil) (by omega)) (by rw [List.length_range]; omega) fun k hk => ⟨_, _, fun i hi => hi, xg_name, vt_yes, ve_call (va_cons (ve_op (ve_var (i := 1) rfl) (ve_op ve_int (ve_var (i := 2) rfl) rd_int) (rd_ixL (i := 12 + (k : Int)) (lCells_off ns 12 k (by have := List.mem_range.mp hk; omega)))) (va_cons (ve_var (i := 5) rfl) va_nil)) ⟨_, lBs ns, rfl, rfl, rfl⟩⟩).ve (by show _ = PyData.list (List.map rkD (List.map _ (List.range (cellOf ns 18 % 7).toNat))); rw [List.map_map, ← hgn]; rfl)) fun B9 H9 σ9 s9 => ?_
  have s9 : S K H H B9 H9 σ9 [.val (intsD ns), .val (.list (lCells ns)), .no, .val (strsD [(deal ns).own0, (deal ns).own1]), .val ((deal ns).namesD), .val (intsD (deal ns).bs), .val (intsD (deal ns).args), .val (.int (u : Int)), .val (intsD [(deal ns).r0, (deal ns).r1, (deal ns).r2]), .val (intsD [(deal ns).i0, (deal ns).i1]), .val (.list ((deal ns).given.map rkD)), .no, .no, .no, .no, .no, .no, .no, .no, .no, .no, .no] := s9
  refine h_set (i := 11) (d := setsD (deal ns).first) s9 (ve_call (va_cons (show VE K _ _ (.int (cellOf ns 18 / 7)) by walk_at "ve") (va_cons (show VE K _ _ (.int (cellOf ns 19)) by walk_at "ve") (va_cons (ve_var (i := 5) rfl) va_nil))) ⟨_, _, lBs ns, rfl, rfl, rfl⟩) fun B10 H10 σ10 s10 => ?_
  have s10 : S K H H B10 H10 σ10 [.val (intsD ns), .val (.list (lCells ns)), .no, .val (strsD [(deal ns).own0, (deal ns).own1]), .val ((deal ns).namesD), .val (intsD (deal ns).bs), .val (intsD (deal ns).args), .val (.int (u : Int)), .val (intsD [(deal ns).r0, (deal ns).r1, (deal ns).r2]), .val (intsD [(deal ns).i0, (deal ns).i1]), .val (.list ((deal ns).given.map rkD)), .val (setsD (deal ns).first), .no, .no, .no, .no, .no, .no, .no, .no, .no, .no] := s10
  refine h_set (i := 12) (d := setsD (deal ns).second) s10 (ve_call (va_cons (show VE K _ _ (.int (cellOf ns 20 / 2)) by walk_at "ve") (va_cons (show VE K _ _ (.int (cellOf ns 21)) by walk_at "ve") (va_cons (ve_var (i := 5) rfl) va_nil))) ⟨_, _, lBs ns, rfl, rfl, rfl⟩) fun B11 H11 σ11 s11 => ?_
  have s11 : S K H H B11 H11 σ11 [.val (intsD ns), .val (.list (lCells ns)), .no, .val (strsD [(deal ns).own0, (deal ns).own1]), .val ((deal ns).namesD), .val (intsD (deal ns).bs), .val (intsD (deal ns).args), .val (.int (u : Int)), .val (intsD [(deal ns).r0, (deal ns).r1, (deal ns).r2]), .val (intsD [(deal ns).i0, (deal ns).i1]), .val (.list ((deal ns).given.map rkD)), .val (setsD (deal ns).first), .val (setsD (deal ns).second), .no, .no, .no, .no, .no, .no, .no, .no, .no] := s11
  refine h_set (i := 13) (d := optD (deal ns).box) s11 (ve_op ((vl_lst (va_cons (ve_op (ve_var (i := 5) rfl) (show VE K _ _ (.int (cellOf ns 20 / 2 % 8)) by walk_at "ve") (rd_ixL (bx_at (bs := lBs ns) rfl (mod_lt (by decide)).1 (mod_lt (by decide)).2))) (va_cons (ve_op (ve_var (i := 5) rfl) (show VE K _ _ (.int (cellOf ns 20 / 2 % 8)) by walk_at "ve") (rd_ixL (bx_at (bs := lBs ns) rfl (mod_lt (by decide)).1 (mod_lt (by decide)).2))) (va_cons ve_non va_nil))) (Nat.le_of_ble_eq_true rfl)).ve) (show VE K _ _ (.int (cellOf ns 20 % 3)) by walk_at "ve") (rd_ixL (box_at ns))) fun B12 H12 σ12 s12 => ?_
  have s12 : S K H H B12 H12 σ12 [.val (intsD ns), .val (.list (lCells ns)), .no, .val (strsD [(deal ns).own0, (deal ns).own1]), .val ((deal ns).namesD), .val (intsD (deal ns).bs), .val (intsD (deal ns).args), .val (.int (u : Int)), .val (intsD [(deal ns).r0, (deal ns).r1, (deal ns).r2]), .val (intsD [(deal ns).i0, (deal ns).i1]), .val (.list ((deal ns).given.map rkD)), .val (setsD (deal ns).first), .val (setsD (deal ns).second), .val (optD (deal ns).box), .no, .no, .no, .no, .no, .no, .no, .no] := s12
  refine h_set (i := 14) (d := setsD (deal ns).third) s12 (ve_call (va_cons (show VE K _ _ (.int (cellOf ns 22)) by walk_at "ve") (va_cons (show VE K _ _ (.int (cellOf ns 23)) by walk_at "ve") (va_cons (ve_var (i := 5) rfl) va_nil))) ⟨_, _, lBs ns, rfl, rfl, rfl⟩) fun B13 H13 σ13 s13 => ?_
  have s13 : S K H H B13 H13 σ13 [.val (intsD ns), .val (.list (lCells ns)), .no, .val (strsD [(deal ns).own0, (deal ns).own1]), .val ((deal ns).namesD), .val (intsD (deal ns).bs), .val (intsD (deal ns).args), .val (.int (u : Int)), .val (intsD [(deal ns).r0, (deal ns).r1, (deal ns).r2]), .val (intsD [(deal ns).i0, (deal ns).i1]), .val (.list ((deal ns).given.map rkD)), .val (setsD (deal ns).first), .val (setsD (deal ns).second), .val (optD (deal ns).box), .val (setsD (deal ns).third), .no, .no, .no, .no, .no, .no, .no] := s13
  refine h_set (i := 15) (d := .list [rkD (deal ns).a0, rkD (deal ns).a1]) s13 ((vl_lst (va_cons (ve_call (va_cons (show VE K _ _ (.int (cellOf ns 22 / 3)) by walk_at "ve") (va_cons (ve_var (i := 5) rfl) va_nil)) ⟨_, lBs ns, rfl, rfl, rfl⟩) (va_cons (ve_call (va_cons (show VE K _ _ (.int (cellOf ns 23 / 3)) by walk_at "ve") (va_cons (ve_var (i := 5) rfl) va_nil)) ⟨_, lBs ns, rfl, rfl, rfl⟩) va_nil)) (Nat.le_of_ble_eq_true rfl)).ve) fun B14 H14 σ14 s14 => ?_
  have s14 : S K H H B14 H14 σ14 [.val (intsD ns), .val (.list (lCells ns)), .no, .val (strsD [(deal ns).own0, (deal ns).own1]), .val ((deal ns).namesD), .val (intsD (deal ns).bs), .val (intsD (deal ns).args), .val (.int (u : Int)), .val (intsD [(deal ns).r0, (deal ns).r1, (deal ns).r2]), .val (intsD [(deal ns).i0, (deal ns).i1]), .val (.list ((deal ns).given.map rkD)), .val (setsD (deal ns).first), .val (setsD (deal ns).second), .val (optD (deal ns).box), .val (setsD (deal ns).third), .val (.list [rkD (deal ns).a0, rkD (deal ns).a1]), .no, .no, .no, .no, .no, .no] := s14
  refine h_seq ((xn_setL (i := 16) (ds := [spotD ((deal ns).first, .call (deal ns).own0 (deal ns).given (u : Int)), spotD ((deal ns).second, .wait (deal ns).box ((3 - u : Nat) : Int))]) (vl_lst (va_cons (ve_tup (va_cons (ve_var (i := 11) rfl) (va_cons (ve_tup (va_cons ve_str (va_cons (ve_op (ve_var (i := 3) rfl) ve_int (rd_ixL (i := 0) (ds := [.str (deal ns).own0, .str (deal ns).own1]) rfl)) (va_cons (ve_cb (va_cons (ve_var (i := 10) rfl) va_nil) rc_tuple) (va_cons (ve_var (i := 7) rfl) va_nil)))) (Nat.le_of_ble_eq_true rfl)) va_nil)) (Nat.le_of_ble_eq_true rfl)) (va_cons (ve_tup (va_cons (ve_var (i := 12) rfl) (va_cons (ve_tup (va_cons ve_str (va_cons (ve_var (i := 13) rfl) (va_cons (ve_eq (ve_op ve_int (ve_var (i := 7) rfl) rd_int) (congrArg PyData.int (by omega))) va_nil))) (Nat.le_of_ble_eq_true rfl)) va_nil)) (Nat.le_of_ble_eq_true rfl)) va_nil)) (Nat.le_of_ble_eq_true rfl)) : XN K _ [.val (intsD ns), .val (.list (lCells ns)), .no, .val (strsD [(deal ns).own0, (deal ns).own1]), .val ((deal ns).namesD), .val (intsD (deal ns).bs), .val (intsD (deal ns).args), .val (.int (u : Int)), .val (intsD [(deal ns).r0, (deal ns).r1, (deal ns).r2]), .val (intsD [(deal ns).i0, (deal ns).i1]), .val (.list ((deal ns).given.map rkD)), .val (setsD (deal ns).first), .val (setsD (deal ns).second), .val (optD (deal ns).box), .val (setsD (deal ns).third), .val (.list [rkD (deal ns).a0, rkD (deal ns).a1]), .no, .no, .no, .no, .no, .no] [.val (intsD ns), .val (.list (lCells ns)), .no, .val (strsD [(deal ns).own0, (deal ns).own1]), .val ((deal ns).namesD), .val (intsD (deal ns).bs), .val (intsD (deal ns).args), .val (.int (u : Int)), .val (intsD [(deal ns).r0, (deal ns).r1, (deal ns).r2]), .val (intsD [(deal ns).i0, (deal ns).i1]), .val (.list ((deal ns).given.map rkD)), .val (setsD (deal ns).first), .val (setsD (deal ns).second), .val (optD (deal ns).box), .val (setsD (deal ns).third), .val (.list [rkD (deal ns).a0, rkD (deal ns).a1]), .ml [spotD ((deal ns).first, .call (deal ns).own0 (deal ns).given (u : Int)), spotD ((deal ns).second, .wait (deal ns).box ((3 - u : Nat) : Int))], .no, .no, .no, .no, .no]) H H B14 H14 σ14 s14 _ fun B15 H15 σ15 _ s15 => ?_)
  refine h_seq ((xn_app (i := 16) (ds := [spotD ((deal ns).first, .call (deal ns).own0 (deal ns).given (u : Int)), spotD ((deal ns).second, .wait (deal ns).box ((3 - u : Nat) : Int))]) (d := spotD ([], .back (deal ns).a1)) rfl (ve_tup (va_cons ((vl_lst va_nil (Nat.le_of_ble_eq_true rfl)).ve) (va_cons (ve_tup (va_cons ve_str (va_cons (ve_op (ve_var (i := 15) rfl) ve_int (rd_ixL (i := 1) (ds := [rkD (deal ns).a0, rkD (deal ns).a1]) rfl)) va_nil)) (Nat.le_of_ble_eq_true rfl)) va_nil)) (Nat.le_of_ble_eq_true rfl)) rfl (by show 2 ≤ 1000; decide) : XN K _ [.val (intsD ns), .val (.list (lCells ns)), .no, .val (strsD [(deal ns).own0, (deal ns).own1]), .val ((deal ns).namesD), .val (intsD (deal ns).bs), .val (intsD (deal ns).args), .val (.int (u : Int)), .val (intsD [(deal ns).r0, (deal ns).r1, (deal ns).r2]), .val (intsD [(deal ns).i0, (deal ns).i1]), .val (.list ((deal ns).given.map rkD)), .val (setsD (deal ns).first), .val (setsD (deal ns).second), .val (optD (deal ns).box), .val (setsD (deal ns).third), .val (.list [rkD (deal ns).a0, rkD (deal ns).a1]), .ml [spotD ((deal ns).first, .call (deal ns).own0 (deal ns).given (u : Int)), spotD ((deal ns).second, .wait (deal ns).box ((3 - u : Nat) : Int))], .no, .no, .no, .no, .no] [.val (intsD ns), .val (.list (lCells ns)), .no, .val (strsD [(deal ns).own0, (deal ns).own1]), .val ((deal ns).namesD), .val (intsD (deal ns).bs), .val (intsD (deal ns).args), .val (.int (u : Int)), .val (intsD [(deal ns).r0, (deal ns).r1, (deal ns).r2]), .val (intsD [(deal ns).i0, (deal ns).i1]), .val (.list ((deal ns).given.map rkD)), .val (setsD (deal ns).first), .val (setsD (deal ns).second), .val (optD (deal ns).box), .val (setsD (deal ns).third), .val (.list [rkD (deal ns).a0, rkD (deal ns).a1]), .ml ([spotD ((deal ns).first, .call (deal ns).own0 (deal ns).given (u : Int)), spotD ((deal ns).second, .wait (deal ns).box ((3 - u : Nat) : Int))] ++ [spotD ([], .back (deal ns).a1)]), .no, .no, .no, .no, .no]) H H B15 H15 σ15 s15 _ fun B16 H16 σ16 _ s16 => ?_)
  obtain ⟨B17, _, s17⟩ := s16.freeze (i := 16) rfl rfl
  have s17 : S K H H B17 H16 σ16 [.val (intsD ns), .val (.list (lCells ns)), .no, .val (strsD [(deal ns).own0, (deal ns).own1]), .val ((deal ns).namesD), .val (intsD (deal ns).bs), .val (intsD (deal ns).args), .val (.int (u : Int)), .val (intsD [(deal ns).r0, (deal ns).r1, (deal ns).r2]), .val (intsD [(deal ns).i0, (deal ns).i1]), .val (.list ((deal ns).given.map rkD)), .val (setsD (deal ns).first), .val (setsD (deal ns).second), .val (optD (deal ns).box), .val (setsD (deal ns).third), .val (.list [rkD (deal ns).a0, rkD (deal ns).a1]), .val (.list [spotD ((deal ns).first, .call (deal ns).own0 (deal ns).given (u : Int)), spotD ((deal ns).second, .wait (deal ns).box ((3 - u : Nat) : Int)), spotD ([], .back (deal ns).a1)]), .no, .no, .no, .no, .no] := s17
  refine h_set (i := 17) (d := intsD [(deal ns).r0, (deal ns).r1, (deal ns).r2]) s17 ((vl_lst (va_cons (ve_op (ve_var (i := 8) rfl) ve_int (rd_ixL (i := 0) (ds := [.int (deal ns).r0, .int (deal ns).r1, .int (deal ns).r2]) rfl)) (va_cons (ve_op (ve_var (i := 8) rfl) ve_int (rd_ixL (i := 1) (ds := [.int (deal ns).r0, .int (deal ns).r1, .int (deal ns).r2]) rfl)) (va_cons (ve_op (ve_var (i := 8) rfl) ve_int (rd_ixL (i := 2) (ds := [.int (deal ns).r0, .int (deal ns).r1, .int (deal ns).r2]) rfl)) va_nil))) (Nat.le_of_ble_eq_true rfl)).ve) fun B18 H18 σ18 s18 => ?_
  have s18 : S K H H B18 H18 σ18 [.val (intsD ns), .val (.list (lCells ns)), .no, .val (strsD [(deal ns).own0, (deal ns).own1]), .val ((deal ns).namesD), .val (intsD (deal ns).bs), .val (intsD (deal ns).args), .val (.int (u : Int)), .val (intsD [(deal ns).r0, (deal ns).r1, (deal ns).r2]), .val (intsD [(deal ns).i0, (deal ns).i1]), .val (.list ((deal ns).given.map rkD)), .val (setsD (deal ns).first), .val (setsD (deal ns).second), .val (optD (deal ns).box), .val (setsD (deal ns).third), .val (.list [rkD (deal ns).a0, rkD (deal ns).a1]), .val (.list [spotD ((deal ns).first, .call (deal ns).own0 (deal ns).given (u : Int)), spotD ((deal ns).second, .wait (deal ns).box ((3 - u : Nat) : Int)), spotD ([], .back (deal ns).a1)]), .val (intsD [(deal ns).r0, (deal ns).r1, (deal ns).r2]), .no, .no, .no, .no] := s18
  refine h_seq ((xn_if (δ' := [.val (intsD ns), .val (.list (lCells ns)), .no, .val (strsD [(deal ns).own0, (deal ns).own1]), .val ((deal ns).namesD), .val (intsD (deal ns).bs), .val (intsD (deal ns).args), .val (.int (u : Int)), .val (intsD [(deal ns).r0, (deal ns).r1, (deal ns).r2]), .val (intsD [(deal ns).i0, (deal ns).i1]), .val (.list ((deal ns).given.map rkD)), .val (setsD (deal ns).first), .val (setsD (deal ns).second), .val (optD (deal ns).box), .val (setsD (deal ns).third), .val (.list [rkD (deal ns).a0, rkD (deal ns).a1]), .val (.list ((spotsOf (deal ns) u).map spotD)), .val (intsD (orderOf (deal ns) u)), .no, .no, .no, .no]) (vt_test (ve_op (ve_var (i := 7) rfl) ve_int rd_eqI)) (fun h => ?_) (fun h => ?_) : XN K _ [.val (intsD ns), .val (.list (lCells ns)), .no, .val (strsD [(deal ns).own0, (deal ns).own1]), .val ((deal ns).namesD), .val (intsD (deal ns).bs), .val (intsD (deal ns).args), .val (.int (u : Int)), .val (intsD [(deal ns).r0, (deal ns).r1, (deal ns).r2]), .val (intsD [(deal ns).i0, (deal ns).i1]), .val (.list ((deal ns).given.map rkD)), .val (setsD (deal ns).first), .val (setsD (deal ns).second), .val (optD (deal ns).box), .val (setsD (deal ns).third), .val (.list [rkD (deal ns).a0, rkD (deal ns).a1]), .val (.list [spotD ((deal ns).first, .call (deal ns).own0 (deal ns).given (u : Int)), spotD ((deal ns).second, .wait (deal ns).box ((3 - u : Nat) : Int)), spotD ([], .back (deal ns).a1)]), .val (intsD [(deal ns).r0, (deal ns).r1, (deal ns).r2]), .no, .no, .no, .no] [.val (intsD ns), .val (.list (lCells ns)), .no, .val (strsD [(deal ns).own0, (deal ns).own1]), .val ((deal ns).namesD), .val (intsD (deal ns).bs), .val (intsD (deal ns).args), .val (.int (u : Int)), .val (intsD [(deal ns).r0, (deal ns).r1, (deal ns).r2]), .val (intsD [(deal ns).i0, (deal ns).i1]), .val (.list ((deal ns).given.map rkD)), .val (setsD (deal ns).first), .val (setsD (deal ns).second), .val (optD (deal ns).box), .val (setsD (deal ns).third), .val (.list [rkD (deal ns).a0, rkD (deal ns).a1]), .val (.list ((spotsOf (deal ns) u).map spotD)), .val (intsD (orderOf (deal ns) u)), .no, .no, .no, .no]) H H B18 H18 σ18 s18 _ fun B19 H19 σ19 _ s19 => ?_)
  · have h := of_decide_eq_true h
    have hu3 : u = 2 := by omega
    have g1 : spotsOf (deal ns) u = [((deal ns).first, .call (deal ns).own0 (deal ns).given (u : Int)), ([], .back (deal ns).a1), ((deal ns).second, .wait (deal ns).box ((3 - u : Nat) : Int))] := if_pos hu3
    have g2 : orderOf (deal ns) u = [(deal ns).r0, (deal ns).r2, (deal ns).r1] := if_pos hu3
    rw [g1, g2]
    exact xn_seq (xn_set (d := .list [spotD ((deal ns).first, .call (deal ns).own0 (deal ns).given (u : Int)), spotD ([], .back (deal ns).a1), spotD ((deal ns).second, .wait (deal ns).box ((3 - u : Nat) : Int))]) ((vl_lst (va_cons (ve_op (ve_var (i := 16) rfl) ve_int (rd_ixL (i := 0) (ds := [spotD ((deal ns).first, .call (deal ns).own0 (deal ns).given (u : Int)), spotD ((deal ns).second, .wait (deal ns).box ((3 - u : Nat) : Int)), spotD ([], .back (deal ns).a1)]) rfl)) (va_cons (ve_op (ve_var (i := 16) rfl) ve_int (rd_ixL (i := 2) (ds := [spotD ((deal ns).first, .call (deal ns).own0 (deal ns).given (u : Int)), spotD ((deal ns).second, .wait (deal ns).box ((3 - u : Nat) : Int)), spotD ([], .back (deal ns).a1)]) rfl)) (va_cons (ve_op (ve_var (i := 16) rfl) ve_int (rd_ixL (i := 1) (ds := [spotD ((deal ns).first, .call (deal ns).own0 (deal ns).given (u : Int)), spotD ((deal ns).second, .wait (deal ns).box ((3 - u : Nat) : Int)), spotD ([], .back (deal ns).a1)]) rfl)) va_nil))) (Nat.le_of_ble_eq_true rfl)).ve)) (xn_set (d := intsD [(deal ns).r0, (deal ns).r2, (deal ns).r1]) ((vl_lst (va_cons (ve_op (ve_var (i := 8) rfl) ve_int (rd_ixL (i := 0) (ds := [.int (deal ns).r0, .int (deal ns).r1, .int (deal ns).r2]) rfl)) (va_cons (ve_op (ve_var (i := 8) rfl) ve_int (rd_ixL (i := 2) (ds := [.int (deal ns).r0, .int (deal ns).r1, .int (deal ns).r2]) rfl)) (va_cons (ve_op (ve_var (i := 8) rfl) ve_int (rd_ixL (i := 1) (ds := [.int (deal ns).r0, .int (deal ns).r1, .int (deal ns).r2]) rfl)) va_nil))) (Nat.le_of_ble_eq_true rfl)).ve))
  · have h := of_decide_eq_false h
    have hu3 : ¬ u = 2 := fun e => h (by rw [e]; rfl)
    have g1 : spotsOf (deal ns) u = [((deal ns).first, .call (deal ns).own0 (deal ns).given (u : Int)), ((deal ns).second, .wait (deal ns).box ((3 - u : Nat) : Int)), ([], .back (deal ns).a1)] := if_neg hu3
    have g2 : orderOf (deal ns) u = [(deal ns).r0, (deal ns).r1, (deal ns).r2] := if_neg hu3
    rw [g1, g2]
    exact xn_next
  refine h_set (i := 18) (d := .list ((fn0 (deal ns) (lMany ns)).spots.map spotD)) s19 ((vl_lst (va_cons (ve_tup (va_cons (ve_var (i := 14) rfl) (va_cons (ve_tup (va_cons ve_str (va_cons ve_int va_nil)) (Nat.le_of_ble_eq_true rfl)) va_nil)) (Nat.le_of_ble_eq_true rfl)) (va_cons (ve_tup (va_cons ((vl_lst va_nil (Nat.le_of_ble_eq_true rfl)).ve) (va_cons (ve_tup (va_cons ve_str (va_cons (ve_op (ve_var (i := 15) rfl) ve_int (rd_ixL (i := 0) (ds := [rkD (deal ns).a0, rkD (deal ns).a1]) rfl)) va_nil)) (Nat.le_of_ble_eq_true rfl)) va_nil)) (Nat.le_of_ble_eq_true rfl)) va_nil)) (Nat.le_of_ble_eq_true rfl)).ve) fun B20 H20 σ20 s20 => ?_
  have s20 : S K H H B20 H20 σ20 [.val (intsD ns), .val (.list (lCells ns)), .no, .val (strsD [(deal ns).own0, (deal ns).own1]), .val ((deal ns).namesD), .val (intsD (deal ns).bs), .val (intsD (deal ns).args), .val (.int (u : Int)), .val (intsD [(deal ns).r0, (deal ns).r1, (deal ns).r2]), .val (intsD [(deal ns).i0, (deal ns).i1]), .val (.list ((deal ns).given.map rkD)), .val (setsD (deal ns).first), .val (setsD (deal ns).second), .val (optD (deal ns).box), .val (setsD (deal ns).third), .val (.list [rkD (deal ns).a0, rkD (deal ns).a1]), .val (.list ((spotsOf (deal ns) u).map spotD)), .val (intsD (orderOf (deal ns) u)), .val (.list ((fn0 (deal ns) (lMany ns)).spots.map spotD)), .no, .no, .no] := s20
  refine h_set (i := 19) (d := .list ([fn0 (deal ns) (lMany ns), fn1 (deal ns) u].map Fn.progD)) s20 ((vl_lst (va_cons (ve_call (va_cons (ve_op (ve_var (i := 3) rfl) ve_int (rd_ixL (i := 0) (ds := [.str (deal ns).own0, .str (deal ns).own1]) rfl)) (va_cons (ve_op (ve_var (i := 4) rfl) ve_int (rd_ixL (i := 0) (ds := [strsD (deal ns).n0, strsD (deal ns).n1]) rfl)) (va_cons (ve_eq (d := .int (cellOf ns 11 / 64 % 7)) (by walk_at "ve") (congrArg PyData.int hmany)) (va_cons ve_bl va_nil)))) ⟨(deal ns).own0, (deal ns).n0, lMany ns, rfl, dok.l0, (fn0_ok ns).many, rfl⟩) (va_cons (ve_call (va_cons (ve_op (ve_var (i := 3) rfl) ve_int (rd_ixL (i := 1) (ds := [.str (deal ns).own0, .str (deal ns).own1]) rfl)) (va_cons (ve_op (ve_var (i := 4) rfl) ve_int (rd_ixL (i := 1) (ds := [strsD (deal ns).n0, strsD (deal ns).n1]) rfl)) (va_cons (ve_eq ve_int rfl) (va_cons ve_bl va_nil)))) ⟨(deal ns).own1, (deal ns).n1, 6, rfl, dok.l1, by decide, rfl⟩) va_nil)) (Nat.le_of_ble_eq_true rfl)).ve) fun B21 H21 σ21 s21 => ?_
  have s21 : S K H H B21 H21 σ21 [.val (intsD ns), .val (.list (lCells ns)), .no, .val (strsD [(deal ns).own0, (deal ns).own1]), .val ((deal ns).namesD), .val (intsD (deal ns).bs), .val (intsD (deal ns).args), .val (.int (u : Int)), .val (intsD [(deal ns).r0, (deal ns).r1, (deal ns).r2]), .val (intsD [(deal ns).i0, (deal ns).i1]), .val (.list ((deal ns).given.map rkD)), .val (setsD (deal ns).first), .val (setsD (deal ns).second), .val (optD (deal ns).box), .val (setsD (deal ns).third), .val (.list [rkD (deal ns).a0, rkD (deal ns).a1]), .val (.list ((spotsOf (deal ns) u).map spotD)), .val (intsD (orderOf (deal ns) u)), .val (.list ((fn0 (deal ns) (lMany ns)).spots.map spotD)), .val (.list ([fn0 (deal ns) (lMany ns), fn1 (deal ns) u].map Fn.progD)), .no, .no] := s21
  refine h_set (i := 20) (d := .list ([fn0 (deal ns) (lMany ns), fn1 (deal ns) u].map (Fn.tabD (deal ns).bs))) s21 ((vl_lst (va_cons (ve_tup (va_cons (ve_op (ve_var (i := 3) rfl) ve_int (rd_ixL (i := 0) (ds := [.str (deal ns).own0, .str (deal ns).own1]) rfl)) (va_cons (ve_call (va_cons (ve_var (i := 9) rfl) (va_cons (ve_op (ve_var (i := 3) rfl) ve_int (rd_ixL (i := 0) (ds := [.str (deal ns).own0, .str (deal ns).own1]) rfl)) (va_cons (ve_var (i := 5) rfl) va_nil))) ⟨[(deal ns).i0, (deal ns).i1], (deal ns).own0, lBs ns, rfl, rfl, (Nat.le_of_ble_eq_true rfl), rfl⟩) va_nil)) (Nat.le_of_ble_eq_true rfl)) (va_cons (ve_tup (va_cons (ve_op (ve_var (i := 3) rfl) ve_int (rd_ixL (i := 1) (ds := [.str (deal ns).own0, .str (deal ns).own1]) rfl)) (va_cons (ve_call (va_cons (ve_var (i := 17) rfl) (va_cons (ve_op (ve_var (i := 3) rfl) ve_int (rd_ixL (i := 1) (ds := [.str (deal ns).own0, .str (deal ns).own1]) rfl)) (va_cons (ve_var (i := 5) rfl) va_nil))) ⟨orderOf (deal ns) u, (deal ns).own1, lBs ns, rfl, rfl, ordl, rfl⟩) va_nil)) (Nat.le_of_ble_eq_true rfl)) va_nil)) (Nat.le_of_ble_eq_true rfl)).ve) fun B22 H22 σ22 s22 => ?_
  have s22 : S K H H B22 H22 σ22 [.val (intsD ns), .val (.list (lCells ns)), .no, .val (strsD [(deal ns).own0, (deal ns).own1]), .val ((deal ns).namesD), .val (intsD (deal ns).bs), .val (intsD (deal ns).args), .val (.int (u : Int)), .val (intsD [(deal ns).r0, (deal ns).r1, (deal ns).r2]), .val (intsD [(deal ns).i0, (deal ns).i1]), .val (.list ((deal ns).given.map rkD)), .val (setsD (deal ns).first), .val (setsD (deal ns).second), .val (optD (deal ns).box), .val (setsD (deal ns).third), .val (.list [rkD (deal ns).a0, rkD (deal ns).a1]), .val (.list ((spotsOf (deal ns) u).map spotD)), .val (intsD (orderOf (deal ns) u)), .val (.list ((fn0 (deal ns) (lMany ns)).spots.map spotD)), .val (.list ([fn0 (deal ns) (lMany ns), fn1 (deal ns) u].map Fn.progD)), .val (.list ([fn0 (deal ns) (lMany ns), fn1 (deal ns) u].map (Fn.tabD (deal ns).bs))), .no] := s22
  refine h_asg ?_
  refine h_make (C := CW) ?_
  refine (show VA K _ [.val (intsD ns), .val (.list (lCells ns)), .no, .val (strsD [(deal ns).own0, (deal ns).own1]), .val ((deal ns).namesD), .val (intsD (deal ns).bs), .val (intsD (deal ns).args), .val (.int (u : Int)), .val (intsD [(deal ns).r0, (deal ns).r1, (deal ns).r2]), .val (intsD [(deal ns).i0, (deal ns).i1]), .val (.list ((deal ns).given.map rkD)), .val (setsD (deal ns).first), .val (setsD (deal ns).second), .val (optD (deal ns).box), .val (setsD (deal ns).third), .val (.list [rkD (deal ns).a0, rkD (deal ns).a1]), .val (.list ((spotsOf (deal ns) u).map spotD)), .val (intsD (orderOf (deal ns) u)), .val (.list ((fn0 (deal ns) (lMany ns)).spots.map spotD)), .val (.list ([fn0 (deal ns) (lMany ns), fn1 (deal ns) u].map Fn.progD)), .val (.list ([fn0 (deal ns) (lMany ns), fn1 (deal ns) u].map (Fn.tabD (deal ns).bs))), .no] [.list ([fn0 (deal ns) (lMany ns), fn1 (deal ns) u].map Fn.progD), .list ([fn0 (deal ns) (lMany ns), fn1 (deal ns) u].map Fn.codeD), .list ([fn0 (deal ns) (lMany ns), fn1 (deal ns) u].map (Fn.tabD (deal ns).bs)), intsD (deal ns).args] from (va_cons (ve_var (i := 19) rfl) (va_cons ((vl_lst (va_cons (ve_tup (va_cons (ve_op (ve_var (i := 3) rfl) ve_int (rd_ixL (i := 0) (ds := [.str (deal ns).own0, .str (deal ns).own1]) rfl)) (va_cons (ve_var (i := 18) rfl) va_nil)) (Nat.le_of_ble_eq_true rfl)) (va_cons (ve_tup (va_cons (ve_op (ve_var (i := 3) rfl) ve_int (rd_ixL (i := 1) (ds := [.str (deal ns).own0, .str (deal ns).own1]) rfl)) (va_cons (ve_var (i := 16) rfl) va_nil)) (Nat.le_of_ble_eq_true rfl)) va_nil)) (Nat.le_of_ble_eq_true rfl)).ve) (va_cons (ve_var (i := 20) rfl) (va_cons (ve_var (i := 6) rfl) va_nil))))) H H B22 H22 σ22 s22 _ fun vs BA HA tA dA => ?_
  have sA := s22.step tA
  cases dA with
  | @cons vp _ _ _ dp dA =>
  cases dA with
  | @cons vc _ _ _ dc dA =>
  cases dA with
  | @cons vt _ _ _ dt dA =>
  cases dA with
  | @cons va _ _ _ da dA =>
  cases dA
  intro wa dx hwa hdx hne
  have hB : Same BA (upd (upd HA dx (.own wa)) wa (.ins CW dx [])) := same_upd (same_upd sA.bh (sA.bh.free hdx)) (sA.bh.free hwa)
  refine ⟨BA, wa, dx, fn0 (deal ns) (lMany ns), fn1 (deal ns) u, (deal ns).bs, (deal ns).args, vp, vc, vt, va, rfl, hB, sA.bh.free hwa, upd_same, dp, dc, dt, da, fn0_ok ns, f1ok, own_ne ns, (by rw [dok.lb]; decide), (by rw [dok.la]; decide), dok.ra, fun A f b dxf BB HB eA b1 bh2 kp hA hst hf hb stat n1 n2 n3 n4 => ⟨rfl, ?_⟩⟩
  subst eA
  have sA' : S K BA HA BA HA σ22 [.val (intsD ns), .val (.list (lCells ns)), .no, .val (strsD [(deal ns).own0, (deal ns).own1]), .val ((deal ns).namesD), .val (intsD (deal ns).bs), .val (intsD (deal ns).args), .val (.int (u : Int)), .val (intsD [(deal ns).r0, (deal ns).r1, (deal ns).r2]), .val (intsD [(deal ns).i0, (deal ns).i1]), .val (.list ((deal ns).given.map rkD)), .val (setsD (deal ns).first), .val (setsD (deal ns).second), .val (optD (deal ns).box), .val (setsD (deal ns).third), .val (.list [rkD (deal ns).a0, rkD (deal ns).a1]), .val (.list ((spotsOf (deal ns) u).map spotD)), .val (intsD (orderOf (deal ns) u)), .val (.list ((fn0 (deal ns) (lMany ns)).spots.map spotD)), .val (.list ([fn0 (deal ns) (lMany ns), fn1 (deal ns) u].map Fn.progD)), .val (.list ([fn0 (deal ns) (lMany ns), fn1 (deal ns) u].map (Fn.tabD (deal ns).bs))), .no] := sA.re rfl sA.bh
  have sB : S K BB HB BB HB σ22 [.val (intsD ns), .val (.list (lCells ns)), .no, .val (strsD [(deal ns).own0, (deal ns).own1]), .val ((deal ns).namesD), .val (intsD (deal ns).bs), .val (intsD (deal ns).args), .val (.int (u : Int)), .val (intsD [(deal ns).r0, (deal ns).r1, (deal ns).r2]), .val (intsD [(deal ns).i0, (deal ns).i1]), .val (.list ((deal ns).given.map rkD)), .val (setsD (deal ns).first), .val (setsD (deal ns).second), .val (optD (deal ns).box), .val (setsD (deal ns).third), .val (.list [rkD (deal ns).a0, rkD (deal ns).a1]), .val (.list ((spotsOf (deal ns) u).map spotD)), .val (intsD (orderOf (deal ns) u)), .val (.list ((fn0 (deal ns) (lMany ns)).spots.map spotD)), .val (.list ([fn0 (deal ns) (lMany ns), fn1 (deal ns) u].map Fn.progD)), .val (.list ([fn0 (deal ns) (lMany ns), fn1 (deal ns) u].map (Fn.tabD (deal ns).bs))), .no] := by
    refine ⟨.refl bh2, sA'.len, fun i x hx => ?_⟩
    have z := sA'.at_ i x hx
    have pl : plainS [.val (intsD ns), .val (.list (lCells ns)), .no, .val (strsD [(deal ns).own0, (deal ns).own1]), .val ((deal ns).namesD), .val (intsD (deal ns).bs), .val (intsD (deal ns).args), .val (.int (u : Int)), .val (intsD [(deal ns).r0, (deal ns).r1, (deal ns).r2]), .val (intsD [(deal ns).i0, (deal ns).i1]), .val (.list ((deal ns).given.map rkD)), .val (setsD (deal ns).first), .val (setsD (deal ns).second), .val (optD (deal ns).box), .val (setsD (deal ns).third), .val (.list [rkD (deal ns).a0, rkD (deal ns).a1]), .val (.list ((spotsOf (deal ns) u).map spotD)), .val (intsD (orderOf (deal ns) u)), .val (.list ((fn0 (deal ns) (lMany ns)).spots.map spotD)), .val (.list ([fn0 (deal ns) (lMany ns), fn1 (deal ns) u].map Fn.progD)), .val (.list ([fn0 (deal ns) (lMany ns), fn1 (deal ns) u].map (Fn.tabD (deal ns).bs))), .no] = true := rfl
    obtain ⟨p1, p2⟩ := plainS_at pl hx
    cases x with
    | no => trivial
    | raw v => exact z
    | val d =>
      obtain ⟨v, e, dv⟩ := z
      exact ⟨v, e, dp_same b1 dv⟩
    | ml ds => exact absurd rfl (p1 ds)
    | fact φ => exact absurd rfl (p2 φ)
  have sC : S K BB HB BB HB (σ22.set 21 (some (.ref A.w))) [.val (intsD ns), .val (.list (lCells ns)), .no, .val (strsD [(deal ns).own0, (deal ns).own1]), .val ((deal ns).namesD), .val (intsD (deal ns).bs), .val (intsD (deal ns).args), .val (.int (u : Int)), .val (intsD [(deal ns).r0, (deal ns).r1, (deal ns).r2]), .val (intsD [(deal ns).i0, (deal ns).i1]), .val (.list ((deal ns).given.map rkD)), .val (setsD (deal ns).first), .val (setsD (deal ns).second), .val (optD (deal ns).box), .val (setsD (deal ns).third), .val (.list [rkD (deal ns).a0, rkD (deal ns).a1]), .val (.list ((spotsOf (deal ns) u).map spotD)), .val (intsD (orderOf (deal ns) u)), .val (.list ((fn0 (deal ns) (lMany ns)).spots.map spotD)), .val (.list ([fn0 (deal ns) (lMany ns), fn1 (deal ns) u].map Fn.progD)), .val (.list ([fn0 (deal ns) (lMany ns), fn1 (deal ns) u].map (Fn.tabD (deal ns).bs))), .raw (.ref A.w)] := sB.raw 21 (.ref A.w)
  refine ⟨_, sC.at_ 21 (.raw (.ref A.w)) rfl, ?_⟩
  refine (show VA K _ [.val (intsD ns), .val (.list (lCells ns)), .no, .val (strsD [(deal ns).own0, (deal ns).own1]), .val ((deal ns).namesD), .val (intsD (deal ns).bs), .val (intsD (deal ns).args), .val (.int (u : Int)), .val (intsD [(deal ns).r0, (deal ns).r1, (deal ns).r2]), .val (intsD [(deal ns).i0, (deal ns).i1]), .val (.list ((deal ns).given.map rkD)), .val (setsD (deal ns).first), .val (setsD (deal ns).second), .val (optD (deal ns).box), .val (setsD (deal ns).third), .val (.list [rkD (deal ns).a0, rkD (deal ns).a1]), .val (.list ((spotsOf (deal ns) u).map spotD)), .val (intsD (orderOf (deal ns) u)), .val (.list ((fn0 (deal ns) (lMany ns)).spots.map spotD)), .val (.list ([fn0 (deal ns) (lMany ns), fn1 (deal ns) u].map Fn.progD)), .val (.list ([fn0 (deal ns) (lMany ns), fn1 (deal ns) u].map (Fn.tabD (deal ns).bs))), .raw (.ref A.w)] [(deal ns).toldD, (deal ns).deedsD, intsD (deal ns).args] from (va_cons ((vl_lst (va_cons (ve_var (i := 3) rfl) (va_cons (ve_var (i := 4) rfl) (va_cons (ve_var (i := 5) rfl) (va_cons (ve_var (i := 8) rfl) (va_cons (ve_var (i := 9) rfl) va_nil))))) (Nat.le_of_ble_eq_true rfl)).ve) (va_cons ((vl_lst (va_cons (ve_var (i := 10) rfl) (va_cons (ve_var (i := 11) rfl) (va_cons (ve_var (i := 14) rfl) (va_cons (ve_var (i := 12) rfl) (va_cons (ve_var (i := 13) rfl) (va_cons (ve_var (i := 15) rfl) va_nil)))))) (Nat.le_of_ble_eq_true rfl)).ve) (va_cons (ve_var (i := 6) rfl) va_nil)))) BB HB BB HB _ sC _ fun vs2 BC HC tC dC => ?_
  cases dC with
  | @cons vt2 _ _ _ dt2 dC =>
  cases dC with
  | @cons vd2 _ _ _ dd2 dC =>
  cases dC with
  | @cons va2 _ _ _ da2 dC =>
  cases dC
  exact ⟨BC, A, dx, fn0 (deal ns) (lMany ns), fn1 (deal ns) u, deal ns, u, 3 - u, f, b, dxf, vt2, vd2, va2, rfl, ⟨tC.bh, tC.h _ _ hA, stat.same tC.b⟩, tC.h _ _ hst, tC.h _ _ hf, tC.h _ _ hb, tC.out n1 hA, tC.out n2 hst, tC.out n3 hf, tC.out n4 hb, dt2, dd2, da2, dok, q⟩
end
end K37
/-! What the top has written; the law's own head. -/
namespace K37
open PySem PySem.Spec PyProof.Rows L2
theorem tup_of {K : PySem.W.Frag} {a : Addr} {od : Option Addr} {us : List Value} {n : Nat} {sl : Array (Option Value)} {vs : List V} (l : K.lookup a = some ⟨.type "tuple", od, .seq us.toArray n, sl⟩) (hz : us.length ≤ sizeLine) (r : Vals vs us) (H : Hp) : SqT K H a vs :=
  .inr ⟨_, _, _, l, rfl, rfl, by rw [List.size_toArray]; exact hz, r⟩
theorem all_mk {l : PySem.W.OpenLaw} {w : World} {K : PySem.W.Frag} {h : Heap} {mg : Str → Option Value} {fa : Addr} (X : K.In h) (G : h.Ns mainGlobals mg) (hfa : mg "law" = some (.ref fa))
    {CF : Addr}
    {CW : Addr}
    {WK : Addr}
    {aG : Addr}
    {aA : Addr}
    {f_gives : Addr} {od_gives an_gives : Option Addr} {sl_gives : Array (Option Value)} {oc_gives kV_gives dc_gives pm_gives cd_gives ct_gives : Value}
    {f_atoms_of : Addr} {od_atoms_of an_atoms_of : Option Addr} {sl_atoms_of : Array (Option Value)} {oc_atoms_of kV_atoms_of dc_atoms_of pm_atoms_of cd_atoms_of ct_atoms_of : Value}
    {f_reads : Addr} {od_reads an_reads : Option Addr} {sl_reads : Array (Option Value)} {oc_reads kV_reads dc_reads pm_reads cd_reads ct_reads : Value}
    {f_names_of : Addr} {od_names_of an_names_of : Option Addr} {sl_names_of : Array (Option Value)} {oc_names_of kV_names_of dc_names_of pm_names_of cd_names_of ct_names_of : Value}
    {f_value : Addr} {od_value an_value : Option Addr} {sl_value : Array (Option Value)} {oc_value kV_value dc_value pm_value cd_value ct_value : Value}
    {f_worth : Addr} {od_worth an_worth : Option Addr} {sl_worth : Array (Option Value)} {oc_worth kV_worth dc_worth pm_worth cd_worth ct_worth : Value}
    {f_asked : Addr} {od_asked an_asked : Option Addr} {sl_asked : Array (Option Value)} {oc_asked kV_asked dc_asked pm_asked cd_asked ct_asked : Value}
    {f_lcell_at : Addr} {od_lcell_at an_lcell_at : Option Addr} {sl_lcell_at : Array (Option Value)} {oc_lcell_at kV_lcell_at dc_lcell_at pm_lcell_at cd_lcell_at ct_lcell_at : Value}
    {f_lwhole : Addr} {od_lwhole an_lwhole : Option Addr} {sl_lwhole : Array (Option Value)} {oc_lwhole kV_lwhole dc_lwhole pm_lwhole cd_lwhole ct_lwhole : Value}
    {f_lvalue : Addr} {od_lvalue an_lvalue : Option Addr} {sl_lvalue : Array (Option Value)} {oc_lvalue kV_lvalue dc_lvalue pm_lvalue cd_lvalue ct_lvalue : Value}
    {f_lnumber : Addr} {od_lnumber an_lnumber : Option Addr} {sl_lnumber : Array (Option Value)} {oc_lnumber kV_lnumber dc_lnumber pm_lnumber cd_lnumber ct_lnumber : Value}
    {f_lnames : Addr} {od_lnames an_lnames : Option Addr} {sl_lnames : Array (Option Value)} {oc_lnames kV_lnames dc_lnames pm_lnames cd_lnames ct_lnames : Value}
    {f_lsome : Addr} {od_lsome an_lsome : Option Addr} {sl_lsome : Array (Option Value)} {oc_lsome kV_lsome dc_lsome pm_lsome cd_lsome ct_lsome : Value}
    {f_lsets : Addr} {od_lsets an_lsets : Option Addr} {sl_lsets : Array (Option Value)} {oc_lsets kV_lsets dc_lsets pm_lsets cd_lsets ct_lsets : Value}
    {f_lworth : Addr} {od_lworth an_lworth : Option Addr} {sl_lworth : Array (Option Value)} {oc_lworth kV_lworth dc_lworth pm_lworth cd_lworth ct_lworth : Value}
    {f_lframes : Addr} {od_lframes an_lframes : Option Addr} {sl_lframes : Array (Option Value)} {oc_lframes kV_lframes dc_lframes pm_lframes cd_lframes ct_lframes : Value}
    {f_lmarks : Addr} {od_lmarks an_lmarks : Option Addr} {sl_lmarks : Array (Option Value)} {oc_lmarks kV_lmarks dc_lmarks pm_lmarks cd_lmarks ct_lmarks : Value}
    {f_lset : Addr} {od_lset an_lset : Option Addr} {sl_lset : Array (Option Value)} {oc_lset kV_lset dc_lset pm_lset cd_lset ct_lset : Value}
    {f_lstands : Addr} {od_lstands an_lstands : Option Addr} {sl_lstands : Array (Option Value)} {oc_lstands kV_lstands dc_lstands pm_lstands cd_lstands ct_lstands : Value}
    {f_lfunction : Addr} {od_lfunction an_lfunction : Option Addr} {sl_lfunction : Array (Option Value)} {oc_lfunction kV_lfunction dc_lfunction pm_lfunction cd_lfunction ct_lfunction : Value}
    {f_lwalked : Addr} {od_lwalked an_lwalked : Option Addr} {sl_lwalked : Array (Option Value)} {oc_lwalked kV_lwalked dc_lwalked pm_lwalked cd_lwalked ct_lwalked : Value}
    {f_law : Addr} {od_law an_law : Option Addr} {sl_law : Array (Option Value)} {oc_law kV_law dc_law pm_law cd_law ct_law : Value}
    {f_wk_init : Addr} {od_wk_init an_wk_init : Option Addr} {sl_wk_init : Array (Option Value)} {oc_wk_init kV_wk_init dc_wk_init pm_wk_init cd_wk_init ct_wk_init : Value}
    {f_ended : Addr} {od_ended an_ended : Option Addr} {sl_ended : Array (Option Value)} {oc_ended kV_ended dc_ended pm_ended cd_ended ct_ended : Value}
    {f_answer : Addr} {od_answer an_answer : Option Addr} {sl_answer : Array (Option Value)} {oc_answer kV_answer dc_answer pm_answer cd_answer ct_answer : Value}
    {f_step : Addr} {od_step an_step : Option Addr} {sl_step : Array (Option Value)} {oc_step kV_step dc_step pm_step cd_step ct_step : Value}
    {f_cf_init : Addr} {od_cf_init an_cf_init : Option Addr} {sl_cf_init : Array (Option Value)} {oc_cf_init kV_cf_init dc_cf_init pm_cf_init cd_cf_init ct_cf_init : Value}
    {f_keep : Addr} {od_keep an_keep : Option Addr} {sl_keep : Array (Option Value)} {oc_keep kV_keep dc_keep pm_keep cd_keep ct_keep : Value}
    {f_worths : Addr} {od_worths an_worths : Option Addr} {sl_worths : Array (Option Value)} {oc_worths kV_worths dc_worths pm_worths cd_worths ct_worths : Value}
    {f_settle : Addr} {od_settle an_settle : Option Addr} {sl_settle : Array (Option Value)} {oc_settle kV_settle dc_settle pm_settle cd_settle ct_settle : Value}
    {f_cw_init : Addr} {od_cw_init an_cw_init : Option Addr} {sl_cw_init : Array (Option Value)} {oc_cw_init kV_cw_init dc_cw_init pm_cw_init cd_cw_init ct_cw_init : Value}
    {f_advance : Addr} {od_advance an_advance : Option Addr} {sl_advance : Array (Option Value)} {oc_advance kV_advance dc_advance pm_advance cd_advance ct_advance : Value}
    {f_done : Addr} {od_done an_done : Option Addr} {sl_done : Array (Option Value)} {oc_done kV_done dc_done pm_done cd_done ct_done : Value}
    {f_gone_back : Addr} {od_gone_back an_gone_back : Option Addr} {sl_gone_back : Array (Option Value)} {oc_gone_back kV_gone_back dc_gone_back pm_gone_back cd_gone_back ct_gone_back : Value}
    {f_mark : Addr} {od_mark an_mark : Option Addr} {sl_mark : Array (Option Value)} {oc_mark kV_mark dc_mark pm_mark cd_mark ct_mark : Value}
    {f_frames : Addr} {od_frames an_frames : Option Addr} {sl_frames : Array (Option Value)} {oc_frames kV_frames dc_frames pm_frames cd_frames ct_frames : Value}
    {f_under : Addr} {od_under an_under : Option Addr} {sl_under : Array (Option Value)} {oc_under kV_under dc_under pm_under cd_under ct_under : Value}
    {f_place : Addr} {od_place an_place : Option Addr} {sl_place : Array (Option Value)} {oc_place kV_place dc_place pm_place cd_place ct_place : Value}
    {f_told : Addr} {od_told an_told : Option Addr} {sl_told : Array (Option Value)} {oc_told kV_told dc_told pm_told cd_told ct_told : Value}
    {tW : Tok}
    {tG0 tG1 tG2 tG3 tG4 : Tok} {odtG : Option Addr} {sltG : Array (Option Value)} {ntG : Nat}
    {tA0 tA1 tA2 tA3 : Tok} {odtA : Option Addr} {sltA : Array (Option Value)} {ntA : Nat}
    (aCF : PySem.W.nsIn K mainGlobals "CodeFrame" = some (some (.ref CF)))
    (aCW : PySem.W.nsIn K mainGlobals "CodeWalker" = some (some (.ref CW)))
    (aWK : PySem.W.nsIn K mainGlobals "Walker" = some (some (.ref WK)))
    (a_gives : PySem.W.nsIn K mainGlobals "gives" = some (some (.ref f_gives)))
    (l_gives : K.lookup f_gives = some ⟨oc_gives, od_gives, .func (PySem.W.fnOf "gives" "gives" (defArgs s_gives) (defBody s_gives) (defScope s_gives) .none kV_gives dc_gives pm_gives an_gives cd_gives ct_gives), sl_gives⟩)
    (c_gives : PySem.W.codeIn K cd_gives "gives" = true)
    (k_gives : PySem.W.keepIn K (.ref f_gives) = true)
    (a_atoms_of : PySem.W.nsIn K mainGlobals "atoms_of" = some (some (.ref f_atoms_of)))
    (l_atoms_of : K.lookup f_atoms_of = some ⟨oc_atoms_of, od_atoms_of, .func (PySem.W.fnOf "atoms_of" "atoms_of" (defArgs s_atoms_of) (defBody s_atoms_of) (defScope s_atoms_of) .none kV_atoms_of dc_atoms_of pm_atoms_of an_atoms_of cd_atoms_of ct_atoms_of), sl_atoms_of⟩)
    (c_atoms_of : PySem.W.codeIn K cd_atoms_of "atoms_of" = true)
    (k_atoms_of : PySem.W.keepIn K (.ref f_atoms_of) = true)
    (a_reads : PySem.W.nsIn K mainGlobals "reads" = some (some (.ref f_reads)))
    (l_reads : K.lookup f_reads = some ⟨oc_reads, od_reads, .func (PySem.W.fnOf "reads" "reads" (defArgs s_reads) (defBody s_reads) (defScope s_reads) .none kV_reads dc_reads pm_reads an_reads cd_reads ct_reads), sl_reads⟩)
    (c_reads : PySem.W.codeIn K cd_reads "reads" = true)
    (k_reads : PySem.W.keepIn K (.ref f_reads) = true)
    (a_names_of : PySem.W.nsIn K mainGlobals "names_of" = some (some (.ref f_names_of)))
    (l_names_of : K.lookup f_names_of = some ⟨oc_names_of, od_names_of, .func (PySem.W.fnOf "names_of" "names_of" (defArgs s_names_of) (defBody s_names_of) (defScope s_names_of) .none kV_names_of dc_names_of pm_names_of an_names_of cd_names_of ct_names_of), sl_names_of⟩)
    (c_names_of : PySem.W.codeIn K cd_names_of "names_of" = true)
    (k_names_of : PySem.W.keepIn K (.ref f_names_of) = true)
    (a_value : PySem.W.nsIn K mainGlobals "value" = some (some (.ref f_value)))
    (l_value : K.lookup f_value = some ⟨oc_value, od_value, .func (PySem.W.fnOf "value" "value" (defArgs s_value) (defBody s_value) (defScope s_value) .none kV_value dc_value pm_value an_value cd_value ct_value), sl_value⟩)
    (c_value : PySem.W.codeIn K cd_value "value" = true)
    (k_value : PySem.W.keepIn K (.ref f_value) = true)
    (a_worth : PySem.W.nsIn K mainGlobals "worth" = some (some (.ref f_worth)))
    (l_worth : K.lookup f_worth = some ⟨oc_worth, od_worth, .func (PySem.W.fnOf "worth" "worth" (defArgs s_worth) (defBody s_worth) (defScope s_worth) .none kV_worth dc_worth pm_worth an_worth cd_worth ct_worth), sl_worth⟩)
    (c_worth : PySem.W.codeIn K cd_worth "worth" = true)
    (k_worth : PySem.W.keepIn K (.ref f_worth) = true)
    (a_asked : PySem.W.nsIn K mainGlobals "asked" = some (some (.ref f_asked)))
    (l_asked : K.lookup f_asked = some ⟨oc_asked, od_asked, .func (PySem.W.fnOf "asked" "asked" (defArgs s_asked) (defBody s_asked) (defScope s_asked) .none kV_asked dc_asked pm_asked an_asked cd_asked ct_asked), sl_asked⟩)
    (c_asked : PySem.W.codeIn K cd_asked "asked" = true)
    (k_asked : PySem.W.keepIn K (.ref f_asked) = true)
    (a_lcell_at : PySem.W.nsIn K mainGlobals "_law_cell_at" = some (some (.ref f_lcell_at)))
    (l_lcell_at : K.lookup f_lcell_at = some ⟨oc_lcell_at, od_lcell_at, .func (PySem.W.fnOf "_law_cell_at" "_law_cell_at" (defArgs s_lcell_at) (defBody s_lcell_at) (defScope s_lcell_at) .none kV_lcell_at dc_lcell_at pm_lcell_at an_lcell_at cd_lcell_at ct_lcell_at), sl_lcell_at⟩)
    (c_lcell_at : PySem.W.codeIn K cd_lcell_at "_law_cell_at" = true)
    (k_lcell_at : PySem.W.keepIn K (.ref f_lcell_at) = true)
    (a_lwhole : PySem.W.nsIn K mainGlobals "_law_whole" = some (some (.ref f_lwhole)))
    (l_lwhole : K.lookup f_lwhole = some ⟨oc_lwhole, od_lwhole, .func (PySem.W.fnOf "_law_whole" "_law_whole" (defArgs s_lwhole) (defBody s_lwhole) (defScope s_lwhole) .none kV_lwhole dc_lwhole pm_lwhole an_lwhole cd_lwhole ct_lwhole), sl_lwhole⟩)
    (c_lwhole : PySem.W.codeIn K cd_lwhole "_law_whole" = true)
    (k_lwhole : PySem.W.keepIn K (.ref f_lwhole) = true)
    (a_lvalue : PySem.W.nsIn K mainGlobals "_law_value" = some (some (.ref f_lvalue)))
    (l_lvalue : K.lookup f_lvalue = some ⟨oc_lvalue, od_lvalue, .func (PySem.W.fnOf "_law_value" "_law_value" (defArgs s_lvalue) (defBody s_lvalue) (defScope s_lvalue) .none kV_lvalue dc_lvalue pm_lvalue an_lvalue cd_lvalue ct_lvalue), sl_lvalue⟩)
    (c_lvalue : PySem.W.codeIn K cd_lvalue "_law_value" = true)
    (k_lvalue : PySem.W.keepIn K (.ref f_lvalue) = true)
    (a_lnumber : PySem.W.nsIn K mainGlobals "_law_number" = some (some (.ref f_lnumber)))
    (l_lnumber : K.lookup f_lnumber = some ⟨oc_lnumber, od_lnumber, .func (PySem.W.fnOf "_law_number" "_law_number" (defArgs s_lnumber) (defBody s_lnumber) (defScope s_lnumber) .none kV_lnumber dc_lnumber pm_lnumber an_lnumber cd_lnumber ct_lnumber), sl_lnumber⟩)
    (c_lnumber : PySem.W.codeIn K cd_lnumber "_law_number" = true)
    (k_lnumber : PySem.W.keepIn K (.ref f_lnumber) = true)
    (a_lnames : PySem.W.nsIn K mainGlobals "_law_names" = some (some (.ref f_lnames)))
    (l_lnames : K.lookup f_lnames = some ⟨oc_lnames, od_lnames, .func (PySem.W.fnOf "_law_names" "_law_names" (defArgs s_lnames) (defBody s_lnames) (defScope s_lnames) .none kV_lnames dc_lnames pm_lnames an_lnames cd_lnames ct_lnames), sl_lnames⟩)
    (c_lnames : PySem.W.codeIn K cd_lnames "_law_names" = true)
    (k_lnames : PySem.W.keepIn K (.ref f_lnames) = true)
    (a_lsome : PySem.W.nsIn K mainGlobals "_law_some" = some (some (.ref f_lsome)))
    (l_lsome : K.lookup f_lsome = some ⟨oc_lsome, od_lsome, .func (PySem.W.fnOf "_law_some" "_law_some" (defArgs s_lsome) (defBody s_lsome) (defScope s_lsome) .none kV_lsome dc_lsome pm_lsome an_lsome cd_lsome ct_lsome), sl_lsome⟩)
    (c_lsome : PySem.W.codeIn K cd_lsome "_law_some" = true)
    (k_lsome : PySem.W.keepIn K (.ref f_lsome) = true)
    (a_lsets : PySem.W.nsIn K mainGlobals "_law_sets" = some (some (.ref f_lsets)))
    (l_lsets : K.lookup f_lsets = some ⟨oc_lsets, od_lsets, .func (PySem.W.fnOf "_law_sets" "_law_sets" (defArgs s_lsets) (defBody s_lsets) (defScope s_lsets) .none kV_lsets dc_lsets pm_lsets an_lsets cd_lsets ct_lsets), sl_lsets⟩)
    (c_lsets : PySem.W.codeIn K cd_lsets "_law_sets" = true)
    (k_lsets : PySem.W.keepIn K (.ref f_lsets) = true)
    (a_lworth : PySem.W.nsIn K mainGlobals "_law_worth" = some (some (.ref f_lworth)))
    (l_lworth : K.lookup f_lworth = some ⟨oc_lworth, od_lworth, .func (PySem.W.fnOf "_law_worth" "_law_worth" (defArgs s_lworth) (defBody s_lworth) (defScope s_lworth) .none kV_lworth dc_lworth pm_lworth an_lworth cd_lworth ct_lworth), sl_lworth⟩)
    (c_lworth : PySem.W.codeIn K cd_lworth "_law_worth" = true)
    (k_lworth : PySem.W.keepIn K (.ref f_lworth) = true)
    (a_lframes : PySem.W.nsIn K mainGlobals "_law_frames" = some (some (.ref f_lframes)))
    (l_lframes : K.lookup f_lframes = some ⟨oc_lframes, od_lframes, .func (PySem.W.fnOf "_law_frames" "_law_frames" (defArgs s_lframes) (defBody s_lframes) (defScope s_lframes) .none kV_lframes dc_lframes pm_lframes an_lframes cd_lframes ct_lframes), sl_lframes⟩)
    (c_lframes : PySem.W.codeIn K cd_lframes "_law_frames" = true)
    (k_lframes : PySem.W.keepIn K (.ref f_lframes) = true)
    (a_lmarks : PySem.W.nsIn K mainGlobals "_law_marks" = some (some (.ref f_lmarks)))
    (l_lmarks : K.lookup f_lmarks = some ⟨oc_lmarks, od_lmarks, .func (PySem.W.fnOf "_law_marks" "_law_marks" (defArgs s_lmarks) (defBody s_lmarks) (defScope s_lmarks) .none kV_lmarks dc_lmarks pm_lmarks an_lmarks cd_lmarks ct_lmarks), sl_lmarks⟩)
    (c_lmarks : PySem.W.codeIn K cd_lmarks "_law_marks" = true)
    (k_lmarks : PySem.W.keepIn K (.ref f_lmarks) = true)
    (a_lset : PySem.W.nsIn K mainGlobals "_law_set" = some (some (.ref f_lset)))
    (l_lset : K.lookup f_lset = some ⟨oc_lset, od_lset, .func (PySem.W.fnOf "_law_set" "_law_set" (defArgs s_lset) (defBody s_lset) (defScope s_lset) .none kV_lset dc_lset pm_lset an_lset cd_lset ct_lset), sl_lset⟩)
    (c_lset : PySem.W.codeIn K cd_lset "_law_set" = true)
    (k_lset : PySem.W.keepIn K (.ref f_lset) = true)
    (a_lstands : PySem.W.nsIn K mainGlobals "_law_stands" = some (some (.ref f_lstands)))
    (l_lstands : K.lookup f_lstands = some ⟨oc_lstands, od_lstands, .func (PySem.W.fnOf "_law_stands" "_law_stands" (defArgs s_lstands) (defBody s_lstands) (defScope s_lstands) .none kV_lstands dc_lstands pm_lstands an_lstands cd_lstands ct_lstands), sl_lstands⟩)
    (c_lstands : PySem.W.codeIn K cd_lstands "_law_stands" = true)
    (k_lstands : PySem.W.keepIn K (.ref f_lstands) = true)
    (a_lfunction : PySem.W.nsIn K mainGlobals "_law_function" = some (some (.ref f_lfunction)))
    (l_lfunction : K.lookup f_lfunction = some ⟨oc_lfunction, od_lfunction, .func (PySem.W.fnOf "_law_function" "_law_function" (defArgs s_lfunction) (defBody s_lfunction) (defScope s_lfunction) .none kV_lfunction dc_lfunction pm_lfunction an_lfunction cd_lfunction ct_lfunction), sl_lfunction⟩)
    (c_lfunction : PySem.W.codeIn K cd_lfunction "_law_function" = true)
    (k_lfunction : PySem.W.keepIn K (.ref f_lfunction) = true)
    (a_lwalked : PySem.W.nsIn K mainGlobals "_law_walked" = some (some (.ref f_lwalked)))
    (l_lwalked : K.lookup f_lwalked = some ⟨oc_lwalked, od_lwalked, .func (PySem.W.fnOf "_law_walked" "_law_walked" (defArgs s_lwalked) (defBody s_lwalked) (defScope s_lwalked) .none kV_lwalked dc_lwalked pm_lwalked an_lwalked cd_lwalked ct_lwalked), sl_lwalked⟩)
    (c_lwalked : PySem.W.codeIn K cd_lwalked "_law_walked" = true)
    (k_lwalked : PySem.W.keepIn K (.ref f_lwalked) = true)
    (a_law : PySem.W.nsIn K mainGlobals "law" = some (some (.ref f_law)))
    (l_law : K.lookup f_law = some ⟨oc_law, od_law, .func (PySem.W.fnOf "law" "law" (defArgs s_law) (defBody s_law) (defScope s_law) .none kV_law dc_law pm_law an_law cd_law ct_law), sl_law⟩)
    (c_law : PySem.W.codeIn K cd_law "law" = true)
    (k_law : PySem.W.keepIn K (.ref f_law) = true)
    (a_wk_init : PySem.W.findCls K (.ref WK) (.type "type") "__init__" = some (.val (.ref f_wk_init)))
    (l_wk_init : K.lookup f_wk_init = some ⟨oc_wk_init, od_wk_init, .func (PySem.W.fnOf "__init__" "Walker.__init__" (defArgs s_wk_init) (defBody s_wk_init) (defScope s_wk_init) .none kV_wk_init dc_wk_init pm_wk_init an_wk_init cd_wk_init ct_wk_init), sl_wk_init⟩)
    (c_wk_init : PySem.W.codeIn K cd_wk_init "Walker.__init__" = true)
    (k_wk_init : PySem.W.keepIn K (.ref f_wk_init) = true)
    (a_ended : PySem.W.findIn K (.ref CW) "ended" = some (some (.ref f_ended)))
    (i_ended : PySem.W.isFn K (.ref f_ended) = true)
    (l_ended : K.lookup f_ended = some ⟨oc_ended, od_ended, .func (PySem.W.fnOf "ended" "Walker.ended" (defArgs s_ended) (defBody s_ended) (defScope s_ended) .none kV_ended dc_ended pm_ended an_ended cd_ended ct_ended), sl_ended⟩)
    (c_ended : PySem.W.codeIn K cd_ended "Walker.ended" = true)
    (k_ended : PySem.W.keepIn K (.ref f_ended) = true)
    (a_answer : PySem.W.findIn K (.ref CW) "answer" = some (some (.ref f_answer)))
    (i_answer : PySem.W.isFn K (.ref f_answer) = true)
    (l_answer : K.lookup f_answer = some ⟨oc_answer, od_answer, .func (PySem.W.fnOf "answer" "Walker.answer" (defArgs s_answer) (defBody s_answer) (defScope s_answer) .none kV_answer dc_answer pm_answer an_answer cd_answer ct_answer), sl_answer⟩)
    (c_answer : PySem.W.codeIn K cd_answer "Walker.answer" = true)
    (k_answer : PySem.W.keepIn K (.ref f_answer) = true)
    (a_step : PySem.W.findIn K (.ref CW) "step" = some (some (.ref f_step)))
    (i_step : PySem.W.isFn K (.ref f_step) = true)
    (l_step : K.lookup f_step = some ⟨oc_step, od_step, .func (PySem.W.fnOf "step" "Walker.step" (defArgs s_step) (defBody s_step) (defScope s_step) .none kV_step dc_step pm_step an_step cd_step ct_step), sl_step⟩)
    (c_step : PySem.W.codeIn K cd_step "Walker.step" = true)
    (k_step : PySem.W.keepIn K (.ref f_step) = true)
    (a_cf_init : PySem.W.findIn K (.ref CF) "__init__" = some (some (.ref f_cf_init)))
    (i_cf_init : PySem.W.isFn K (.ref f_cf_init) = true)
    (l_cf_init : K.lookup f_cf_init = some ⟨oc_cf_init, od_cf_init, .func (PySem.W.fnOf "__init__" "CodeFrame.__init__" (defArgs s_cf_init) (defBody s_cf_init) (defScope s_cf_init) .none kV_cf_init dc_cf_init pm_cf_init an_cf_init cd_cf_init ct_cf_init), sl_cf_init⟩)
    (c_cf_init : PySem.W.codeIn K cd_cf_init "CodeFrame.__init__" = true)
    (k_cf_init : PySem.W.keepIn K (.ref f_cf_init) = true)
    (a_keep : PySem.W.findIn K (.ref CF) "keep" = some (some (.ref f_keep)))
    (i_keep : PySem.W.isFn K (.ref f_keep) = true)
    (l_keep : K.lookup f_keep = some ⟨oc_keep, od_keep, .func (PySem.W.fnOf "keep" "CodeFrame.keep" (defArgs s_keep) (defBody s_keep) (defScope s_keep) .none kV_keep dc_keep pm_keep an_keep cd_keep ct_keep), sl_keep⟩)
    (c_keep : PySem.W.codeIn K cd_keep "CodeFrame.keep" = true)
    (k_keep : PySem.W.keepIn K (.ref f_keep) = true)
    (a_worths : PySem.W.findIn K (.ref CF) "worths" = some (some (.ref f_worths)))
    (i_worths : PySem.W.isFn K (.ref f_worths) = true)
    (l_worths : K.lookup f_worths = some ⟨oc_worths, od_worths, .func (PySem.W.fnOf "worths" "CodeFrame.worths" (defArgs s_worths) (defBody s_worths) (defScope s_worths) .none kV_worths dc_worths pm_worths an_worths cd_worths ct_worths), sl_worths⟩)
    (c_worths : PySem.W.codeIn K cd_worths "CodeFrame.worths" = true)
    (k_worths : PySem.W.keepIn K (.ref f_worths) = true)
    (a_settle : PySem.W.findIn K (.ref CF) "settle" = some (some (.ref f_settle)))
    (i_settle : PySem.W.isFn K (.ref f_settle) = true)
    (l_settle : K.lookup f_settle = some ⟨oc_settle, od_settle, .func (PySem.W.fnOf "settle" "CodeFrame.settle" (defArgs s_settle) (defBody s_settle) (defScope s_settle) .none kV_settle dc_settle pm_settle an_settle cd_settle ct_settle), sl_settle⟩)
    (c_settle : PySem.W.codeIn K cd_settle "CodeFrame.settle" = true)
    (k_settle : PySem.W.keepIn K (.ref f_settle) = true)
    (a_cw_init : PySem.W.findIn K (.ref CW) "__init__" = some (some (.ref f_cw_init)))
    (i_cw_init : PySem.W.isFn K (.ref f_cw_init) = true)
    (l_cw_init : K.lookup f_cw_init = some ⟨oc_cw_init, od_cw_init, .func (PySem.W.fnOf "__init__" "CodeWalker.__init__" (defArgs s_cw_init) (defBody s_cw_init) (defScope s_cw_init) .none kV_cw_init dc_cw_init pm_cw_init an_cw_init cd_cw_init ct_cw_init), sl_cw_init⟩)
    (c_cw_init : PySem.W.codeIn K cd_cw_init "CodeWalker.__init__" = true)
    (k_cw_init : PySem.W.keepIn K (.ref f_cw_init) = true)
    (a_advance : PySem.W.findIn K (.ref CW) "advance" = some (some (.ref f_advance)))
    (i_advance : PySem.W.isFn K (.ref f_advance) = true)
    (l_advance : K.lookup f_advance = some ⟨oc_advance, od_advance, .func (PySem.W.fnOf "advance" "CodeWalker.advance" (defArgs s_advance) (defBody s_advance) (defScope s_advance) .none kV_advance dc_advance pm_advance an_advance cd_advance ct_advance), sl_advance⟩)
    (c_advance : PySem.W.codeIn K cd_advance "CodeWalker.advance" = true)
    (k_advance : PySem.W.keepIn K (.ref f_advance) = true)
    (a_done : PySem.W.findIn K (.ref CW) "done" = some (some (.ref f_done)))
    (i_done : PySem.W.isFn K (.ref f_done) = true)
    (l_done : K.lookup f_done = some ⟨oc_done, od_done, .func (PySem.W.fnOf "done" "CodeWalker.done" (defArgs s_done) (defBody s_done) (defScope s_done) .none kV_done dc_done pm_done an_done cd_done ct_done), sl_done⟩)
    (c_done : PySem.W.codeIn K cd_done "CodeWalker.done" = true)
    (k_done : PySem.W.keepIn K (.ref f_done) = true)
    (a_gone_back : PySem.W.findIn K (.ref CW) "gone_back" = some (some (.ref f_gone_back)))
    (i_gone_back : PySem.W.isFn K (.ref f_gone_back) = true)
    (l_gone_back : K.lookup f_gone_back = some ⟨oc_gone_back, od_gone_back, .func (PySem.W.fnOf "gone_back" "CodeWalker.gone_back" (defArgs s_gone_back) (defBody s_gone_back) (defScope s_gone_back) .none kV_gone_back dc_gone_back pm_gone_back an_gone_back cd_gone_back ct_gone_back), sl_gone_back⟩)
    (c_gone_back : PySem.W.codeIn K cd_gone_back "CodeWalker.gone_back" = true)
    (k_gone_back : PySem.W.keepIn K (.ref f_gone_back) = true)
    (a_mark : PySem.W.findIn K (.ref CW) "mark" = some (some (.ref f_mark)))
    (i_mark : PySem.W.isFn K (.ref f_mark) = true)
    (l_mark : K.lookup f_mark = some ⟨oc_mark, od_mark, .func (PySem.W.fnOf "mark" "CodeWalker.mark" (defArgs s_mark) (defBody s_mark) (defScope s_mark) .none kV_mark dc_mark pm_mark an_mark cd_mark ct_mark), sl_mark⟩)
    (c_mark : PySem.W.codeIn K cd_mark "CodeWalker.mark" = true)
    (k_mark : PySem.W.keepIn K (.ref f_mark) = true)
    (a_frames : PySem.W.findIn K (.ref CW) "frames" = some (some (.ref f_frames)))
    (i_frames : PySem.W.isFn K (.ref f_frames) = true)
    (l_frames : K.lookup f_frames = some ⟨oc_frames, od_frames, .func (PySem.W.fnOf "frames" "CodeWalker.frames" (defArgs s_frames) (defBody s_frames) (defScope s_frames) .none kV_frames dc_frames pm_frames an_frames cd_frames ct_frames), sl_frames⟩)
    (c_frames : PySem.W.codeIn K cd_frames "CodeWalker.frames" = true)
    (k_frames : PySem.W.keepIn K (.ref f_frames) = true)
    (a_under : PySem.W.findIn K (.ref CW) "under" = some (some (.ref f_under)))
    (i_under : PySem.W.isFn K (.ref f_under) = true)
    (l_under : K.lookup f_under = some ⟨oc_under, od_under, .func (PySem.W.fnOf "under" "CodeWalker.under" (defArgs s_under) (defBody s_under) (defScope s_under) .none kV_under dc_under pm_under an_under cd_under ct_under), sl_under⟩)
    (c_under : PySem.W.codeIn K cd_under "CodeWalker.under" = true)
    (k_under : PySem.W.keepIn K (.ref f_under) = true)
    (a_place : PySem.W.findIn K (.ref CW) "place" = some (some (.ref f_place)))
    (i_place : PySem.W.isFn K (.ref f_place) = true)
    (l_place : K.lookup f_place = some ⟨oc_place, od_place, .func (PySem.W.fnOf "place" "CodeWalker.place" (defArgs s_place) (defBody s_place) (defScope s_place) .none kV_place dc_place pm_place an_place cd_place ct_place), sl_place⟩)
    (c_place : PySem.W.codeIn K cd_place "CodeWalker.place" = true)
    (k_place : PySem.W.keepIn K (.ref f_place) = true)
    (a_told : PySem.W.findIn K (.ref CW) "told" = some (some (.ref f_told)))
    (i_told : PySem.W.isFn K (.ref f_told) = true)
    (l_told : K.lookup f_told = some ⟨oc_told, od_told, .func (PySem.W.fnOf "told" "CodeWalker.told" (defArgs s_told) (defBody s_told) (defScope s_told) .none kV_told dc_told pm_told an_told cd_told ct_told), sl_told⟩)
    (c_told : PySem.W.codeIn K cd_told "CodeWalker.told" = true)
    (k_told : PySem.W.keepIn K (.ref f_told) = true)
    (pgCF : PySem.W.plainGet K CF Str.empty = true)
    (hdCF : PySem.W.hasDictIn K CF = true)
    (poCF : PySem.W.plainOver K CF = true)
    (saCF : PySem.W.findIn K (.ref CF) "__setattr__" = some (some (.builtin "object.__setattr__")))
    (mkCF : PySem.W.makesIn K CF = true)
    (kcCF : PySem.W.keepIn K (.ref CF) = true)
    (pgCW : PySem.W.plainGet K CW Str.empty = true)
    (hdCW : PySem.W.hasDictIn K CW = true)
    (poCW : PySem.W.plainOver K CW = true)
    (saCW : PySem.W.findIn K (.ref CW) "__setattr__" = some (some (.builtin "object.__setattr__")))
    (mkCW : PySem.W.makesIn K CW = true)
    (kcCW : PySem.W.keepIn K (.ref CW) = true)
    (nCF_owner : PySem.W.findIn K (.ref CF) "owner" = some none)
    (nCF_spot : PySem.W.findIn K (.ref CF) "spot" = some none)
    (nCF_boxes : PySem.W.findIn K (.ref CF) "boxes" = some none)
    (nCW_sends : PySem.W.findIn K (.ref CW) "sends" = some none)
    (nCW_store : PySem.W.findIn K (.ref CW) "store" = some none)
    (nCW_made : PySem.W.findIn K (.ref CW) "made" = some none)
    (nCW_result : PySem.W.findIn K (.ref CW) "result" = some none)
    (nCW_words : PySem.W.findIn K (.ref CW) "words" = some none)
    (nCW_spots : PySem.W.findIn K (.ref CW) "spots" = some none)
    (nCW_marks : PySem.W.findIn K (.ref CW) "marks" = some none)
    (nCW_stack : PySem.W.findIn K (.ref CW) "stack" = some none)
    (rdWK : PySem.W.readsIn K WK (.type "type") = true)
    (gaWK : PySem.W.specialIn K (.ref WK) "__getattribute__" = some (some (.builtin "type.__getattribute__")))
    (aWIDE : PySem.W.nsIn K mainGlobals "WIDE" = some (some (.int 281474976710656 tW)))
    (aGIVING : PySem.W.nsIn K mainGlobals "GIVING" = some (some (.ref aG)))
    (lGIVING : K.lookup aG = some ⟨.type "tuple", odtG, .seq #[.str "copy" tG0, .str "op" tG1, .str "new" tG2, .str "get" tG3, .str "call" tG4] ntG, sltG⟩)
    (aASKING : PySem.W.nsIn K mainGlobals "ASKING" = some (some (.ref aA)))
    (lASKING : K.lookup aA = some ⟨.type "tuple", odtA, .seq #[.str "if" tA0, .str "while" tA1, .str "out" tA2, .str "back" tA3] ntA, sltA⟩)
    (b_len : PySem.W.nsIn K mainGlobals "len" = some none)
    (b_isinstance : PySem.W.nsIn K mainGlobals "isinstance" = some none)
    (b_int : PySem.W.nsIn K mainGlobals "int" = some none)
    (b_str : PySem.W.nsIn K mainGlobals "str" = some none)
    (b_bool : PySem.W.nsIn K mainGlobals "bool" = some none)
    (b_list : PySem.W.nsIn K mainGlobals "list" = some none)
    (b_tuple : PySem.W.nsIn K mainGlobals "tuple" = some none)
    (b_range : PySem.W.nsIn K mainGlobals "range" = some none)
    (b_enumerate : PySem.W.nsIn K mainGlobals "enumerate" = some none)
    (b_zip : PySem.W.nsIn K mainGlobals "zip" = some none) :
    ∃ fd : FuncData, (∀ (s : Shared) (v : Value), BindsTo s fd ⟨[v], []⟩ [("_law_script", v)]) ∧ ∀ base : Heap, K.In base → base.Ns mainGlobals mg → FnOk l.prog w K mg base CX0 11 fa fd ["_law_script"] (spLaw K) := by
  have e := hfa.symm.trans (PySem.W.mg_of X G a_law)
  cases e
  have T : Txt K mg aG aA := ⟨PySem.W.mg_none_of X G b_len, PySem.W.mg_none_of X G b_isinstance, PySem.W.mg_none_of X G b_int, PySem.W.mg_none_of X G b_str, PySem.W.mg_none_of X G b_bool, PySem.W.mg_none_of X G b_list, PySem.W.mg_none_of X G b_tuple, PySem.W.mg_none_of X G b_range, PySem.W.mg_none_of X G b_enumerate, PySem.W.mg_none_of X G b_zip, ⟨_, PySem.W.mg_of X G aWIDE, ⟨_, rfl⟩⟩, ⟨_, PySem.W.mg_of X G aGIVING, rfl⟩, ⟨_, PySem.W.mg_of X G aASKING, rfl⟩, tup_of lGIVING (by show 5 ≤ sizeLine; decide) (.cons ⟨_, rfl⟩ (.cons ⟨_, rfl⟩ (.cons ⟨_, rfl⟩ (.cons ⟨_, rfl⟩ (.cons ⟨_, rfl⟩ .nil))))), tup_of lASKING (by show 4 ≤ sizeLine; decide) (.cons ⟨_, rfl⟩ (.cons ⟨_, rfl⟩ (.cons ⟨_, rfl⟩ (.cons ⟨_, rfl⟩ .nil))))⟩
  have WT : Wt mg WK := ⟨⟨_, PySem.W.mg_of X G aWK, rfl⟩⟩
  have clF : Cls K CF := ⟨pgCF, hdCF, poCF, saCF⟩
  have clW : Cls K CW := ⟨pgCW, hdCW, poCW, saCW⟩
  have CFp : CFt K CF := ⟨clF, nCF_owner, nCF_spot, nCF_boxes⟩
  have C : CWt K CW := ⟨clW, nCW_sends, nCW_store, nCW_made, nCW_result, nCW_words, nCW_spots, nCW_marks, nCW_stack⟩
  have F_gives := fun_mk (st := s_gives) l_gives c_gives k_gives
  have b_f_gives := F_gives.binds (ps := ["row"]) fun _ _ _ _ _ _ us hl => match us, hl with | [_], _ => rfl
  have F_atoms_of := fun_mk (st := s_atoms_of) l_atoms_of c_atoms_of k_atoms_of
  have b_f_atoms_of := F_atoms_of.binds (ps := ["row"]) fun _ _ _ _ _ _ us hl => match us, hl with | [_], _ => rfl
  have F_reads := fun_mk (st := s_reads) l_reads c_reads k_reads
  have b_f_reads := F_reads.binds (ps := ["row"]) fun _ _ _ _ _ _ us hl => match us, hl with | [_], _ => rfl
  have F_names_of := fun_mk (st := s_names_of) l_names_of c_names_of k_names_of
  have b_f_names_of := F_names_of.binds (ps := ["function"]) fun _ _ _ _ _ _ us hl => match us, hl with | [_], _ => rfl
  have F_value := fun_mk (st := s_value) l_value c_value k_value
  have b_f_value := F_value.binds (ps := ["sign", "one", "other"]) fun _ _ _ _ _ _ us hl => match us, hl with | [_, _, _], _ => rfl
  have F_worth := fun_mk (st := s_worth) l_worth c_worth k_worth
  have b_f_worth := F_worth.binds (ps := ["one", "boxes"]) fun _ _ _ _ _ _ us hl => match us, hl with | [_, _], _ => rfl
  have F_asked := fun_mk (st := s_asked) l_asked c_asked k_asked
  have b_f_asked := F_asked.binds (ps := ["act"]) fun _ _ _ _ _ _ us hl => match us, hl with | [_], _ => rfl
  have F_lcell_at := fun_mk (st := s_lcell_at) l_lcell_at c_lcell_at k_lcell_at
  have b_f_lcell_at := F_lcell_at.binds (ps := ["_law_script", "_law_k"]) fun _ _ _ _ _ _ us hl => match us, hl with | [_, _], _ => rfl
  have F_lwhole := fun_mk (st := s_lwhole) l_lwhole c_lwhole k_lwhole
  have b_f_lwhole := F_lwhole.binds (ps := ["_law_found"]) fun _ _ _ _ _ _ us hl => match us, hl with | [_], _ => rfl
  have F_lvalue := fun_mk (st := s_lvalue) l_lvalue c_lvalue k_lvalue
  have b_f_lvalue := F_lvalue.binds (ps := ["_law_sign", "_law_one", "_law_other"]) fun _ _ _ _ _ _ us hl => match us, hl with | [_, _, _], _ => rfl
  have F_lnumber := fun_mk (st := s_lnumber) l_lnumber c_lnumber k_lnumber
  have b_f_lnumber := F_lnumber.binds (ps := ["_law_cell"]) fun _ _ _ _ _ _ us hl => match us, hl with | [_], _ => rfl
  have F_lnames := fun_mk (st := s_lnames) l_lnames c_lnames k_lnames
  have b_f_lnames := F_lnames.binds (ps := ["_law_cell", "_law_many"]) fun _ _ _ _ _ _ us hl => match us, hl with | [_, _], _ => rfl
  have F_lsome := fun_mk (st := s_lsome) l_lsome c_lsome k_lsome
  have b_f_lsome := F_lsome.binds (ps := ["_law_cell", "_law_boxes"]) fun _ _ _ _ _ _ us hl => match us, hl with | [_, _], _ => rfl
  have F_lsets := fun_mk (st := s_lsets) l_lsets c_lsets k_lsets
  have b_f_lsets := F_lsets.binds (ps := ["_law_one", "_law_other", "_law_boxes"]) fun _ _ _ _ _ _ us hl => match us, hl with | [_, _, _], _ => rfl
  have F_lworth := fun_mk (st := s_lworth) l_lworth c_lworth k_lworth
  have b_f_lworth := F_lworth.binds (ps := ["_law_one", "_law_boxes"]) fun _ _ _ _ _ _ us hl => match us, hl with | [_, _], _ => rfl
  have F_lframes := fun_mk (st := s_lframes) l_lframes c_lframes k_lframes
  have b_f_lframes := F_lframes.binds (ps := ["_law_found", "_law_due"]) fun _ _ _ _ _ _ us hl => match us, hl with | [_, _], _ => rfl
  have F_lmarks := fun_mk (st := s_lmarks) l_lmarks c_lmarks k_lmarks
  have b_f_lmarks := F_lmarks.binds (ps := ["_law_rows", "_law_own", "_law_boxes"]) fun _ _ _ _ _ _ us hl => match us, hl with | [_, _, _], _ => rfl
  have F_lset := fun_mk (st := s_lset) l_lset c_lset k_lset
  have b_f_lset := F_lset.binds (ps := ["_law_sets_here", "_law_boxes"]) fun _ _ _ _ _ _ us hl => match us, hl with | [_, _], _ => rfl
  have F_lstands := fun_mk (st := s_lstands) l_lstands c_lstands k_lstands
  have b_f_lstands := F_lstands.binds (ps := ["_law_walker", "_law_due", "_law_names_here", "_law_boxes", "_law_nows"]) fun _ _ _ _ _ _ us hl => match us, hl with | [_, _, _, _, _], _ => rfl
  have F_lfunction := fun_mk (st := s_lfunction) l_lfunction c_lfunction k_lfunction
  have b_f_lfunction := F_lfunction.binds (ps := ["_law_own", "_law_names_here", "_law_many", "_law_folded"]) fun _ _ _ _ _ _ us hl => match us, hl with | [_, _, _, _], _ => rfl
  have F_lwalked := fun_mk (st := s_lwalked) l_lwalked c_lwalked k_lwalked
  have b_f_lwalked := F_lwalked.binds (ps := ["_law_walker", "_law_told", "_law_deeds", "_law_args"]) fun _ _ _ _ _ _ us hl => match us, hl with | [_, _, _, _], _ => rfl
  have F_law := fun_mk (st := s_law) l_law c_law k_law
  have F_wk_init := fun_mk (st := s_wk_init) l_wk_init c_wk_init k_wk_init
  have b_f_wk_init := F_wk_init.binds (ps := ["self"]) fun _ _ _ _ _ _ us hl => match us, hl with | [_], _ => rfl
  have F_ended := fun_mk (st := s_ended) l_ended c_ended k_ended
  have b_f_ended := F_ended.binds (ps := ["self"]) fun _ _ _ _ _ _ us hl => match us, hl with | [_], _ => rfl
  have F_answer := fun_mk (st := s_answer) l_answer c_answer k_answer
  have b_f_answer := F_answer.binds (ps := ["self"]) fun _ _ _ _ _ _ us hl => match us, hl with | [_], _ => rfl
  have F_step := fun_mk (st := s_step) l_step c_step k_step
  have b_f_step := F_step.binds (ps := ["self"]) fun _ _ _ _ _ _ us hl => match us, hl with | [_], _ => rfl
  have F_cf_init := fun_mk (st := s_cf_init) l_cf_init c_cf_init k_cf_init
  have b_f_cf_init := F_cf_init.binds (ps := ["self", "owner", "args"]) fun _ _ _ _ _ _ us hl => match us, hl with | [_, _, _], _ => rfl
  have F_keep := fun_mk (st := s_keep) l_keep c_keep k_keep
  have b_f_keep := F_keep.binds (ps := ["self", "box", "number"]) fun _ _ _ _ _ _ us hl => match us, hl with | [_, _, _], _ => rfl
  have F_worths := fun_mk (st := s_worths) l_worths c_worths k_worths
  have b_f_worths := F_worths.binds (ps := ["self", "some"]) fun _ _ _ _ _ _ us hl => match us, hl with | [_, _], _ => rfl
  have F_settle := fun_mk (st := s_settle) l_settle c_settle k_settle
  have b_f_settle := F_settle.binds (ps := ["self", "sets"]) fun _ _ _ _ _ _ us hl => match us, hl with | [_, _], _ => rfl
  have F_cw_init := fun_mk (st := s_cw_init) l_cw_init c_cw_init k_cw_init
  have b_f_cw_init := F_cw_init.binds (ps := ["self", "program", "code", "table", "args"]) fun _ _ _ _ _ _ us hl => match us, hl with | [_, _, _, _, _], _ => rfl
  have F_advance := fun_mk (st := s_advance) l_advance c_advance k_advance
  have b_f_advance := F_advance.binds (ps := ["self"]) fun _ _ _ _ _ _ us hl => match us, hl with | [_], _ => rfl
  have F_done := fun_mk (st := s_done) l_done c_done k_done
  have b_f_done := F_done.binds (ps := ["self", "frame", "act", "numbers"]) fun _ _ _ _ _ _ us hl => match us, hl with | [_, _, _, _], _ => rfl
  have F_gone_back := fun_mk (st := s_gone_back) l_gone_back c_gone_back k_gone_back
  have b_f_gone_back := F_gone_back.binds (ps := ["self", "number"]) fun _ _ _ _ _ _ us hl => match us, hl with | [_, _], _ => rfl
  have F_mark := fun_mk (st := s_mark) l_mark c_mark k_mark
  have b_f_mark := F_mark.binds (ps := ["self", "frame"]) fun _ _ _ _ _ _ us hl => match us, hl with | [_, _], _ => rfl
  have F_frames := fun_mk (st := s_frames) l_frames c_frames k_frames
  have b_f_frames := F_frames.binds (ps := ["self"]) fun _ _ _ _ _ _ us hl => match us, hl with | [_], _ => rfl
  have F_under := fun_mk (st := s_under) l_under c_under k_under
  have b_f_under := F_under.binds (ps := ["self", "level"]) fun _ _ _ _ _ _ us hl => match us, hl with | [_, _], _ => rfl
  have F_place := fun_mk (st := s_place) l_place c_place k_place
  have b_f_place := F_place.binds (ps := ["self", "level", "name"]) fun _ _ _ _ _ _ us hl => match us, hl with | [_, _, _], _ => rfl
  have F_told := fun_mk (st := s_told) l_told c_told k_told
  have b_f_told := F_told.binds (ps := ["self", "level", "name"]) fun _ _ _ _ _ _ us hl => match us, hl with | [_, _, _], _ => rfl
  refine ⟨PySem.W.fnOf "law" "law" (defArgs s_law) (defBody s_law) (defScope s_law) .none kV_law dc_law pm_law an_law cd_law ct_law, fun s v => .of_eq rfl, fun base _ _ => ?_⟩
  have c_gives_ : C8.Cal l.prog w K mg base 1 "gives" (spD K R_gives) [] := ⟨_, _, _, [], ok_gives F_gives T, PySem.W.mg_of X G a_gives, F_gives.kp, b_f_gives, .nil⟩
  have c_atoms_of_ : C8.Cal l.prog w K mg base 1 "atoms_of" (spD K R_atoms) [] := ⟨_, _, _, [], ok_atoms F_atoms_of T, PySem.W.mg_of X G a_atoms_of, F_atoms_of.kp, b_f_atoms_of, .nil⟩
  have c_reads_ : C8.Cal l.prog w K mg base 2 "reads" (spD K R_reads) [] := ⟨_, _, _, [], ok_reads F_reads T c_atoms_of_, PySem.W.mg_of X G a_reads, F_reads.kp, b_f_reads, .nil⟩
  have c_names_of_ : C8.Cal l.prog w K mg base 3 "names_of" (spD K R_names) [] := ⟨_, _, _, [], ok_names_of F_names_of T c_gives_ c_reads_, PySem.W.mg_of X G a_names_of, F_names_of.kp, b_f_names_of, .nil⟩
  have c_value_ : C8.Cal l.prog w K mg base 1 "value" (spD K R_val) [] := ⟨_, _, _, [], ok_value F_value T, PySem.W.mg_of X G a_value, F_value.kp, b_f_value, .nil⟩
  have c_lvalue_ : C8.Cal l.prog w K mg base 1 "_law_value" (spD K R_val) [] := ⟨_, _, _, [], ok_lvalue F_lvalue T, PySem.W.mg_of X G a_lvalue, F_lvalue.kp, b_f_lvalue, .nil⟩
  have c_worth_ := all_worth F_worth b_f_worth (PySem.W.mg_of X G a_worth) T c_value_ 3
  have c_lworth_ := all_lworth F_lworth b_f_lworth (PySem.W.mg_of X G a_lworth) T c_lvalue_ 3
  have c_asked_ : C8.Cal l.prog w K mg base 1 "asked" (spD K R_asked) [] := ⟨_, _, _, [], ok_asked F_asked T, PySem.W.mg_of X G a_asked, F_asked.kp, b_f_asked, .nil⟩
  have c_lcell_at_ : C8.Cal l.prog w K mg base 1 "_law_cell_at" (spD K R_cell) [] := ⟨_, _, _, [], ok_lcell_at F_lcell_at T, PySem.W.mg_of X G a_lcell_at, F_lcell_at.kp, b_f_lcell_at, .nil⟩
  have c_lwhole_ : C8.Cal l.prog w K mg base 1 "_law_whole" (spD K R_whole) [] := ⟨_, _, _, [], ok_lwhole F_lwhole T, PySem.W.mg_of X G a_lwhole, F_lwhole.kp, b_f_lwhole, .nil⟩
  have c_lnumber_ : C8.Cal l.prog w K mg base 1 "_law_number" (spD K R_numb) [] := ⟨_, _, _, [], ok_lnumber F_lnumber T, PySem.W.mg_of X G a_lnumber, F_lnumber.kp, b_f_lnumber, .nil⟩
  have c_lnames_ : C8.Cal l.prog w K mg base 1 "_law_names" (spD K R_lnames) [] := ⟨_, _, _, [], ok_lnames F_lnames T, PySem.W.mg_of X G a_lnames, F_lnames.kp, b_f_lnames, .nil⟩
  have c_lsome_ : C8.Cal l.prog w K mg base 1 "_law_some" (spD K R_some) [] := ⟨_, _, _, [], ok_lsome F_lsome T, PySem.W.mg_of X G a_lsome, F_lsome.kp, b_f_lsome, .nil⟩
  have c_lsets_ : C8.Cal l.prog w K mg base 2 "_law_sets" (spD K R_sets) [] := ⟨_, _, _, [], ok_lsets F_lsets T c_lsome_, PySem.W.mg_of X G a_lsets, F_lsets.kp, b_f_lsets, .nil⟩
  have c_lframes_ : C8.Cal l.prog w K mg base 2 "_law_frames" (spD K R_frames) [] := ⟨_, _, _, [], ok_lframes F_lframes T c_lwhole_, PySem.W.mg_of X G a_lframes, F_lframes.kp, b_f_lframes, .nil⟩
  have c_lmarks_ : C8.Cal l.prog w K mg base 1 "_law_marks" (spD K R_marks) [] := ⟨_, _, _, [], ok_lmarks F_lmarks T, PySem.W.mg_of X G a_lmarks, F_lmarks.kp, b_f_lmarks, .nil⟩
  have c_lfunction_ : C8.Cal l.prog w K mg base 1 "_law_function" (spD K R_fun) [] := ⟨_, _, _, [], ok_lfunction F_lfunction T, PySem.W.mg_of X G a_lfunction, F_lfunction.kp, b_f_lfunction, .nil⟩
  have c_lset_ : C8.Cal l.prog w K mg base 5 "_law_set" (spLset K) [] := ⟨_, _, _, [], ok_lset F_lset T c_lworth_, PySem.W.mg_of X G a_lset, F_lset.kp, b_f_lset, .nil⟩
  have m_keep_ : C8.Met l.prog w K mg base 1 CF "keep" (spKeep CF) [] := ⟨_, _, _, [], clF, ⟨a_keep, i_keep, k_keep⟩, ok_keep F_keep T CFp, b_f_keep, .nil⟩
  have m_worths_ : C8.Met l.prog w K mg base 5 CF "worths" (spS K (R_worths CF)) [] := ⟨_, _, _, [], clF, ⟨a_worths, i_worths, k_worths⟩, ok_worths F_worths T CFp c_worth_, b_f_worths, .nil⟩
  have m_settle_ : C8.Met l.prog w K mg base 6 CF "settle" (spSettle K CF) [] := ⟨_, _, _, [], clF, ⟨a_settle, i_settle, k_settle⟩, ok_settle F_settle T CFp m_worths_ m_keep_, b_f_settle, .nil⟩
  have k_cf_init_ : C8.Mak l.prog w K mg base 1 "CodeFrame" CF (spCf K CF) [] := ⟨_, _, _, [], ⟨mkCF, a_cf_init, i_cf_init, kcCF⟩, ok_cf F_cf_init T CFp, PySem.W.mg_of X G aCF, b_f_cf_init, .nil⟩
  have c_wk_ : ClsFn l.prog w K mg base 1 WK "__init__" (spWk CW) := ⟨_, _, _, _, ⟨rdWK, gaWK⟩, a_wk_init, ok_wk F_wk_init T C, k_wk_init, b_f_wk_init⟩
  have k_cw_init_ : C8.Mak l.prog w K mg base 4 "CodeWalker" CW (spCw K CF CW) [] := ⟨_, _, _, [], ⟨mkCW, a_cw_init, i_cw_init, kcCW⟩, ok_cw F_cw_init T WT CFp C c_wk_ c_names_of_ k_cf_init_, PySem.W.mg_of X G aCW, b_f_cw_init, .nil⟩
  have m_mark_ : C8.Met l.prog w K mg base 1 CW "mark" (spMark K CF CW) [] := ⟨_, _, _, [], clW, ⟨a_mark, i_mark, k_mark⟩, ok_mark F_mark T CFp C, b_f_mark, .nil⟩
  have m_frames_ : C8.Met l.prog w K mg base 2 CW "frames" (spFrames K CF CW) [] := ⟨_, _, _, [], clW, ⟨a_frames, i_frames, k_frames⟩, ok_frames F_frames T CFp C m_mark_, b_f_frames, .nil⟩
  have m_under_ : C8.Met l.prog w K mg base 2 CW "under" (spUnder K CF CW) [] := ⟨_, _, _, [], clW, ⟨a_under, i_under, k_under⟩, ok_under F_under T CFp C m_mark_, b_f_under, .nil⟩
  have m_place_ : C8.Met l.prog w K mg base 3 CW "place" (spPlace K CF CW) [] := ⟨_, _, _, [], clW, ⟨a_place, i_place, k_place⟩, ok_place F_place T CFp C m_mark_ m_under_, b_f_place, .nil⟩
  have m_told_ : C8.Met l.prog w K mg base 5 CW "told" (spTold K CF CW) [] := ⟨_, _, _, [], clW, ⟨a_told, i_told, k_told⟩, ok_told F_told T CFp C m_place_ m_under_ c_worth_, b_f_told, .nil⟩
  have m_ended_ : C8.Met l.prog w K mg base 1 CW "ended" (spEnded CW) [] := ⟨_, _, _, [], clW, ⟨a_ended, i_ended, k_ended⟩, ok_ended F_ended T C, b_f_ended, .nil⟩
  have m_answer_ : C8.Met l.prog w K mg base 1 CW "answer" (spAnswer CW) [] := ⟨_, _, _, [], clW, ⟨a_answer, i_answer, k_answer⟩, ok_answer F_answer T C, b_f_answer, .nil⟩
  have m_done_ : C8.Met l.prog w K mg base 1 CW "done" (spDone K CW) [] := ⟨_, _, _, [], clW, ⟨a_done, i_done, k_done⟩, ok_done F_done T, b_f_done, .nil⟩
  have m_gone_back_ : C8.Met l.prog w K mg base 7 CW "gone_back" (spGone K CF CW) [] := ⟨_, _, _, [], clW, ⟨a_gone_back, i_gone_back, k_gone_back⟩, ok_gone F_gone_back T CFp C m_settle_ m_keep_, b_f_gone_back, .nil⟩
  have m_advance_ : C8.Met l.prog w K mg base 8 CW "advance" (spAdv K CF CW) [] := ⟨_, _, _, [], clW, ⟨a_advance, i_advance, k_advance⟩, ok_adv F_advance T CFp C c_asked_ m_worths_ m_settle_ m_gone_back_ m_done_ k_cf_init_, b_f_advance, .nil⟩
  have m_step_ : C8.Met l.prog w K mg base 9 CW "step" (spStep K CF CW) [] := ⟨_, _, _, [], clW, ⟨a_step, i_step, k_step⟩, ok_step F_step T CFp C m_ended_ m_advance_, b_f_step, .nil⟩
  have c_lstands_ : C8.Cal l.prog w K mg base 6 "_law_stands" (spStands K CF CW) [] := ⟨_, _, _, [], ok_lstands F_lstands T CFp C c_lframes_ c_lwhole_ m_frames_ m_told_, PySem.W.mg_of X G a_lstands, F_lstands.kp, b_f_lstands, .nil⟩
  have c_lwalked_ : C8.Cal l.prog w K mg base 10 "_law_walked" (spWalked K CF CW) [] := ⟨_, _, _, [], ok_lwalked F_lwalked T CFp C c_lstands_ c_lworth_ c_lset_ c_lwhole_ m_step_ m_ended_ m_frames_ m_answer_, PySem.W.mg_of X G a_lwalked, F_lwalked.kp, b_f_lwalked, .nil⟩
  exact ok_law F_law T c_lcell_at_ c_lnames_ c_lnumber_ c_lsome_ c_lsets_ c_lfunction_ c_lmarks_ k_cw_init_ c_lwalked_
theorem walk {l : PySem.W.OpenLaw} {q : Program} {loose : List Str} {XP : (Str → Option Value) → Heap → Prop} {YP : World → Heap → Prop} {d : DefRec} {K : Params → PySem.W.Frag} (hn : l.most = some 63) (hdf : d.params.defaults = [])
    (hY : ∀ (w : World) (h : Heap), YP w h → (K w.params).In h)
    (F : ∀ (w : World) (mg : Str → Option Value) (fa : Addr) (h : Heap), (K w.params).In h → h.Ns mainGlobals mg → mg d.name = some (.ref fa) →
      ∃ fd : FuncData, (∀ (s : Shared) (u : Value), BindsTo s fd ⟨[u], []⟩ [("_law_script", u)]) ∧ ∀ base : Heap, (K w.params).In base → base.Ns mainGlobals mg → FnOk l.prog w (K w.params) mg base CX0 11 fa fd ["_law_script"] (spLaw (K w.params))) :
    PySem.W.WalkO q loose XP YP l.row.toRowW d [] (fun f vs => PySem.call f vs) :=
  L2.walk_of (n := 63) (k := 11) (x := "_law_script") (CX := fun _ => CX0) (sp := fun w => spLaw (K w.params)) hn (by decide) hdf ⟨rfl, by decide, by decide⟩ hY F (fun _ _ a ns hl _ hS => ⟨a, ns, rfl, hS, hl, fun _ => rfl⟩) fun _ _ _ _ _ z => z
end K37
open PySem PySem.W PyProof.Rows
set_option maxRecDepth 100000 in
set_option maxHeartbeats 0 in
theorem PySem.Challenge.cw_stopglass_k37_calls_and_waits_holds : PySem.Challenge.rw_stopglass_k37_calls_and_waits.Holds := by
  w_on; o_law; k_head; (case hw => w_witness2)
  k_fill
  refine K37.walk (l := PySem.Challenge.rw_stopglass_k37_calls_and_waits) rfl rfl (fun w h Y => PySem.W.kIn_of Y) ?F
  case F =>
    intro w mg fa h KX G hmg
    refine' K37.all_mk KX G hmg ?aCF ?aCW ?aWK ?a_gives ?l_gives ?c_gives ?k_gives ?a_atoms_of ?l_atoms_of ?c_atoms_of ?k_atoms_of ?a_reads ?l_reads ?c_reads ?k_reads ?a_names_of ?l_names_of ?c_names_of ?k_names_of ?a_value ?l_value ?c_value ?k_value ?a_worth ?l_worth ?c_worth ?k_worth ?a_asked ?l_asked ?c_asked ?k_asked ?a_lcell_at ?l_lcell_at ?c_lcell_at ?k_lcell_at ?a_lwhole ?l_lwhole ?c_lwhole ?k_lwhole ?a_lvalue ?l_lvalue ?c_lvalue ?k_lvalue ?a_lnumber ?l_lnumber ?c_lnumber ?k_lnumber ?a_lnames ?l_lnames ?c_lnames ?k_lnames ?a_lsome ?l_lsome ?c_lsome ?k_lsome ?a_lsets ?l_lsets ?c_lsets ?k_lsets ?a_lworth ?l_lworth ?c_lworth ?k_lworth ?a_lframes ?l_lframes ?c_lframes ?k_lframes ?a_lmarks ?l_lmarks ?c_lmarks ?k_lmarks ?a_lset ?l_lset ?c_lset ?k_lset ?a_lstands ?l_lstands ?c_lstands ?k_lstands ?a_lfunction ?l_lfunction ?c_lfunction ?k_lfunction ?a_lwalked ?l_lwalked ?c_lwalked ?k_lwalked ?a_law ?l_law ?c_law ?k_law ?a_wk_init ?l_wk_init ?c_wk_init ?k_wk_init ?a_ended ?i_ended ?l_ended ?c_ended ?k_ended ?a_answer ?i_answer ?l_answer ?c_answer ?k_answer ?a_step ?i_step ?l_step ?c_step ?k_step ?a_cf_init ?i_cf_init ?l_cf_init ?c_cf_init ?k_cf_init ?a_keep ?i_keep ?l_keep ?c_keep ?k_keep ?a_worths ?i_worths ?l_worths ?c_worths ?k_worths ?a_settle ?i_settle ?l_settle ?c_settle ?k_settle ?a_cw_init ?i_cw_init ?l_cw_init ?c_cw_init ?k_cw_init ?a_advance ?i_advance ?l_advance ?c_advance ?k_advance ?a_done ?i_done ?l_done ?c_done ?k_done ?a_gone_back ?i_gone_back ?l_gone_back ?c_gone_back ?k_gone_back ?a_mark ?i_mark ?l_mark ?c_mark ?k_mark ?a_frames ?i_frames ?l_frames ?c_frames ?k_frames ?a_under ?i_under ?l_under ?c_under ?k_under ?a_place ?i_place ?l_place ?c_place ?k_place ?a_told ?i_told ?l_told ?c_told ?k_told ?pgCF ?hdCF ?poCF ?saCF ?mkCF ?kcCF ?pgCW ?hdCW ?poCW ?saCW ?mkCW ?kcCW ?nCF_owner ?nCF_spot ?nCF_boxes ?nCW_sends ?nCW_store ?nCW_made ?nCW_result ?nCW_words ?nCW_spots ?nCW_marks ?nCW_stack ?rdWK ?gaWK ?aWIDE ?aGIVING ?lGIVING ?aASKING ?lASKING ?b_len ?b_isinstance ?b_int ?b_str ?b_bool ?b_list ?b_tuple ?b_range ?b_enumerate ?b_zip
    (case aCF => k_is)
    (case aCW => k_is)
    (case aWK => k_is)
    (case a_gives => k_is)
    (case l_gives => k_is)
    (case c_gives => k_is)
    (case k_gives => k_is)
    (case a_atoms_of => k_is)
    (case l_atoms_of => k_is)
    (case c_atoms_of => k_is)
    (case k_atoms_of => k_is)
    (case a_reads => k_is)
    (case l_reads => k_is)
    (case c_reads => k_is)
    (case k_reads => k_is)
    (case a_names_of => k_is)
    (case l_names_of => k_is)
    (case c_names_of => k_is)
    (case k_names_of => k_is)
    (case a_value => k_is)
    (case l_value => k_is)
    (case c_value => k_is)
    (case k_value => k_is)
    (case a_worth => k_is)
    (case l_worth => k_is)
    (case c_worth => k_is)
    (case k_worth => k_is)
    (case a_asked => k_is)
    (case l_asked => k_is)
    (case c_asked => k_is)
    (case k_asked => k_is)
    (case a_lcell_at => k_is)
    (case l_lcell_at => k_is)
    (case c_lcell_at => k_is)
    (case k_lcell_at => k_is)
    (case a_lwhole => k_is)
    (case l_lwhole => k_is)
    (case c_lwhole => k_is)
    (case k_lwhole => k_is)
    (case a_lvalue => k_is)
    (case l_lvalue => k_is)
    (case c_lvalue => k_is)
    (case k_lvalue => k_is)
    (case a_lnumber => k_is)
    (case l_lnumber => k_is)
    (case c_lnumber => k_is)
    (case k_lnumber => k_is)
    (case a_lnames => k_is)
    (case l_lnames => k_is)
    (case c_lnames => k_is)
    (case k_lnames => k_is)
    (case a_lsome => k_is)
    (case l_lsome => k_is)
    (case c_lsome => k_is)
    (case k_lsome => k_is)
    (case a_lsets => k_is)
    (case l_lsets => k_is)
    (case c_lsets => k_is)
    (case k_lsets => k_is)
    (case a_lworth => k_is)
    (case l_lworth => k_is)
    (case c_lworth => k_is)
    (case k_lworth => k_is)
    (case a_lframes => k_is)
    (case l_lframes => k_is)
    (case c_lframes => k_is)
    (case k_lframes => k_is)
    (case a_lmarks => k_is)
    (case l_lmarks => k_is)
    (case c_lmarks => k_is)
    (case k_lmarks => k_is)
    (case a_lset => k_is)
    (case l_lset => k_is)
    (case c_lset => k_is)
    (case k_lset => k_is)
    (case a_lstands => k_is)
    (case l_lstands => k_is)
    (case c_lstands => k_is)
    (case k_lstands => k_is)
    (case a_lfunction => k_is)
    (case l_lfunction => k_is)
    (case c_lfunction => k_is)
    (case k_lfunction => k_is)
    (case a_lwalked => k_is)
    (case l_lwalked => k_is)
    (case c_lwalked => k_is)
    (case k_lwalked => k_is)
    (case a_law => k_is)
    (case l_law => k_is)
    (case c_law => k_is)
    (case k_law => k_is)
    (case a_wk_init => k_is)
    (case l_wk_init => k_is)
    (case c_wk_init => k_is)
    (case k_wk_init => k_is)
    (case a_ended => k_is)
    (case i_ended => k_is)
    (case l_ended => k_is)
    (case c_ended => k_is)
    (case k_ended => k_is)
    (case a_answer => k_is)
    (case i_answer => k_is)
    (case l_answer => k_is)
    (case c_answer => k_is)
    (case k_answer => k_is)
    (case a_step => k_is)
    (case i_step => k_is)
    (case l_step => k_is)
    (case c_step => k_is)
    (case k_step => k_is)
    (case a_cf_init => k_is)
    (case i_cf_init => k_is)
    (case l_cf_init => k_is)
    (case c_cf_init => k_is)
    (case k_cf_init => k_is)
    (case a_keep => k_is)
    (case i_keep => k_is)
    (case l_keep => k_is)
    (case c_keep => k_is)
    (case k_keep => k_is)
    (case a_worths => k_is)
    (case i_worths => k_is)
    (case l_worths => k_is)
    (case c_worths => k_is)
    (case k_worths => k_is)
    (case a_settle => k_is)
    (case i_settle => k_is)
    (case l_settle => k_is)
    (case c_settle => k_is)
    (case k_settle => k_is)
    (case a_cw_init => k_is)
    (case i_cw_init => k_is)
    (case l_cw_init => k_is)
    (case c_cw_init => k_is)
    (case k_cw_init => k_is)
    (case a_advance => k_is)
    (case i_advance => k_is)
    (case l_advance => k_is)
    (case c_advance => k_is)
    (case k_advance => k_is)
    (case a_done => k_is)
    (case i_done => k_is)
    (case l_done => k_is)
    (case c_done => k_is)
    (case k_done => k_is)
    (case a_gone_back => k_is)
    (case i_gone_back => k_is)
    (case l_gone_back => k_is)
    (case c_gone_back => k_is)
    (case k_gone_back => k_is)
    (case a_mark => k_is)
    (case i_mark => k_is)
    (case l_mark => k_is)
    (case c_mark => k_is)
    (case k_mark => k_is)
    (case a_frames => k_is)
    (case i_frames => k_is)
    (case l_frames => k_is)
    (case c_frames => k_is)
    (case k_frames => k_is)
    (case a_under => k_is)
    (case i_under => k_is)
    (case l_under => k_is)
    (case c_under => k_is)
    (case k_under => k_is)
    (case a_place => k_is)
    (case i_place => k_is)
    (case l_place => k_is)
    (case c_place => k_is)
    (case k_place => k_is)
    (case a_told => k_is)
    (case i_told => k_is)
    (case l_told => k_is)
    (case c_told => k_is)
    (case k_told => k_is)
    (case pgCF => k_is)
    (case hdCF => k_is)
    (case poCF => k_is)
    (case saCF => k_is)
    (case mkCF => k_is)
    (case kcCF => k_is)
    (case pgCW => k_is)
    (case hdCW => k_is)
    (case poCW => k_is)
    (case saCW => k_is)
    (case mkCW => k_is)
    (case kcCW => k_is)
    (case nCF_owner => k_is)
    (case nCF_spot => k_is)
    (case nCF_boxes => k_is)
    (case nCW_sends => k_is)
    (case nCW_store => k_is)
    (case nCW_made => k_is)
    (case nCW_result => k_is)
    (case nCW_words => k_is)
    (case nCW_spots => k_is)
    (case nCW_marks => k_is)
    (case nCW_stack => k_is)
    (case rdWK => k_is)
    (case gaWK => k_is)
    (case aWIDE => k_is)
    (case aGIVING => k_is)
    (case lGIVING => k_is)
    (case aASKING => k_is)
    (case lASKING => k_is)
    (case b_len => k_is)
    (case b_isinstance => k_is)
    (case b_int => k_is)
    (case b_str => k_is)
    (case b_bool => k_is)
    (case b_list => k_is)
    (case b_tuple => k_is)
    (case b_range => k_is)
    (case b_enumerate => k_is)
    (case b_zip => k_is)
