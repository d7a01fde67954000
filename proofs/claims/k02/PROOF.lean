import PyProof.Rows.All
import Wide.All
import OpenK.AllK
import Wide.FinOn
import HandS.ForMost
import HandS.ForExc
import HandS.Walk
import HandS.Wide
import HandS.Gcd
import HandS.IsInst
import HandS.Zip
import HandS.ExcInit
import HandS.Style
import HandS.ExcIs
import HandS.ExcField
import HandS.ExcSuper
import KE.KExcIs
import HandS.More
import HandS.EndBits
import PySem.Challenge.RW_textworths_k02_sums_products_quotients_p
set_option Elab.async false
set_option linter.all false
set_option maxRecDepth 100000
set_option maxHeartbeats 2000001
namespace DL
open PySem PySem.Spec PyProof.Rows L2 RZ
/-- data as a whole: a value with all that hangs on it; .at a: the object at a, that may change -/
inductive D where
  | non | bl (b : Bool) | int (i : Int) | str (x : Str) | ty (n : String)
  | tup (ds : List D) | lst (ds : List D) | frz (ds : List D)
  | dct (ks : List Key) (ds : List D)
  | obj (C : Addr) (fs : List Str) (ds : List D)
  | exc (C : Addr) (d : D)
  | at (a : Addr)
/-- what may change -/
inductive MO where
  | lst (ds : List D) | dct (ks : List Key) (ds : List D) | obj (C : Addr) (fs : List Str) (ds : List D)
abbrev Mu := Addr → Option MO
abbrev Ro := List (Option D)
def mput (μ : Mu) (a : Addr) (o : MO) : Mu := fun b => if b = a then some o else μ b
def mcut (μ : Mu) (a : Addr) : Mu := fun b => if b = a then none else μ b
theorem mput_same {μ : Mu} {a : Addr} {o : MO} : mput μ a o a = some o := by unfold mput; rw [if_pos rfl]
theorem mput_ne {μ : Mu} {a b : Addr} {o : MO} (h : b ≠ a) : mput μ a o b = μ b := by unfold mput; rw [if_neg h]
theorem mcut_same {μ : Mu} {a : Addr} : mcut μ a a = none := by unfold mcut; rw [if_pos rfl]
theorem mcut_ne {μ : Mu} {a b : Addr} (h : b ≠ a) : mcut μ a b = μ b := by unfold mcut; rw [if_neg h]
theorem mput_none {μ : Mu} {a b : Addr} {o : MO} (h : mput μ a o b = none) : b ≠ a ∧ μ b = none := by
  by_cases e : b = a
  · rw [e, mput_same] at h; cases h
  · rw [mput_ne e] at h; exact ⟨e, h⟩

/-- an exception's object -/
def ExT (a C dx : Addr) : HO := .ext fun h => ∃ (oe : Obj) (vs : Array Value), h.get? a = some oe ∧ oe.cls = .ref C ∧ oe.dict = some dx ∧ oe.data = .fields vs

/-- something of the written part, or something tracked that stays as it is -/
def StS (K : PySem.W.Frag) (μ : Mu) (H : Hp) (p : Addr) (vs : List V) : Prop := (μ p = none ∧ Rd H p (.lst vs)) ∨
    ∃ (o : Obj) (its : Array Value) (n : Nat), K.lookup p = some o ∧ o.cls = .type "list" ∧ o.dict = none ∧ o.data = .seq its n ∧ its.size ≤ sizeLine ∧ Vals vs its.toList
def StT (K : PySem.W.Frag) (μ : Mu) (H : Hp) (p : Addr) (vs : List V) : Prop := (μ p = none ∧ Rd H p (.tup vs)) ∨
    ∃ (o : Obj) (its : Array Value) (n : Nat), K.lookup p = some o ∧ o.cls = .type "tuple" ∧ o.data = .seq its n ∧ its.size ≤ sizeLine ∧ Vals vs its.toList
theorem StS.sq {K : PySem.W.Frag} {μ : Mu} {H : Hp} {p : Addr} {vs : List V} (h : StS K μ H p vs) : SqL K H p vs := by
  rcases h with h | h
  · exact .inl h.2
  · exact .inr h
theorem StT.sq {K : PySem.W.Frag} {μ : Mu} {H : Hp} {p : Addr} {vs : List V} (h : StT K μ H p vs) : SqT K H p vs := by
  rcases h with h | h
  · exact .inl h.2
  · exact .inr h

mutual
/-- the value v is the data d -/
def Den (K : PySem.W.Frag) (μ : Mu) (H : Hp) : D → V → Prop
  | .non, v => v = .non
  | .bl b, v => v = .bl b
  | .int i, v => v = .int i
  | .str x, v => v = .str x
  | .ty n, v => v = .ty n
  | .at a, v => v = .ref a
  | .tup ds, v => ∃ p vs, v = .ref p ∧ StT K μ H p vs ∧ DenL K μ H ds vs
  | .lst ds, v => ∃ p vs, v = .ref p ∧ (μ p = none ∧ H p = some (.lst vs)) ∧ DenL K μ H ds vs
  | .frz ds, v => ∃ p vs, v = .ref p ∧ StS K μ H p vs ∧ DenL K μ H ds vs
  | .dct ks ds, v => ∃ p vs, v = .ref p ∧ (μ p = none ∧ H p = some (.dK (ks.zip vs))) ∧ ks.length = vs.length ∧ DenL K μ H ds vs
  | .obj C fs ds, v => ∃ p dx vs, v = .ref p ∧ (μ p = none ∧ H p = some (.ins C dx (fs.zip vs))) ∧ fs.length = vs.length ∧ DenL K μ H ds vs
  | .exc C d, v => ∃ p dx w, v = .ref p ∧ (μ p = none ∧ H p = some (ExT p C dx)) ∧ (μ dx = none ∧ H dx = some (.xd [(("value" : Str), w)])) ∧ Den K μ H d w
def DenL (K : PySem.W.Frag) (μ : Mu) (H : Hp) : List D → List V → Prop
  | [], vs => vs = []
  | d :: ds, vs => ∃ w ws, vs = w :: ws ∧ Den K μ H d w ∧ DenL K μ H ds ws
end

/-- what stays: all that is tracked and may not change -/
def Grow (μ : Mu) (H : Hp) (μ' : Mu) (H' : Hp) : Prop := ∀ b o, μ b = none → H b = some o → μ' b = none ∧ H' b = some o
theorem Grow.refl (μ : Mu) (H : Hp) : Grow μ H μ H := fun _ _ h e => ⟨h, e⟩
theorem Grow.trans {μ μ1 μ2 : Mu} {H H1 H2 : Hp} (a : Grow μ H μ1 H1) (b : Grow μ1 H1 μ2 H2) : Grow μ H μ2 H2 := fun p o h e => by
  obtain ⟨h1, e1⟩ := a p o h e
  exact b p o h1 e1
theorem Grow.rd {μ μ' : Mu} {H H' : Hp} (g : Grow μ H μ' H') {p : Addr} {u : HO} (h : μ p = none) (r : Rd H p u) : μ' p = none ∧ Rd H' p u := by
  rcases r with r | ⟨o, r⟩
  · exact ⟨(g p _ h r).1, .inl (g p _ h r).2⟩
  · exact ⟨(g p _ h r).1, .inr ⟨o, (g p _ h r).2⟩⟩
theorem Grow.stS {K : PySem.W.Frag} {μ μ' : Mu} {H H' : Hp} (g : Grow μ H μ' H') {p : Addr} {vs : List V} (h : StS K μ H p vs) : StS K μ' H' p vs := by
  rcases h with ⟨a, b⟩ | h
  · exact .inl (g.rd a b)
  · exact .inr h
theorem Grow.stT {K : PySem.W.Frag} {μ μ' : Mu} {H H' : Hp} (g : Grow μ H μ' H') {p : Addr} {vs : List V} (h : StT K μ H p vs) : StT K μ' H' p vs := by
  rcases h with ⟨a, b⟩ | h
  · exact .inl (g.rd a b)
  · exact .inr h
mutual
theorem Den.grow {K : PySem.W.Frag} {μ μ' : Mu} {H H' : Hp} (g : Grow μ H μ' H') : ∀ (d : D) (v : V), Den K μ H d v → Den K μ' H' d v
  | .non, v, h => by unfold Den at h ⊢; exact h
  | .bl b, v, h => by unfold Den at h ⊢; exact h
  | .int i, v, h => by unfold Den at h ⊢; exact h
  | .str x, v, h => by unfold Den at h ⊢; exact h
  | .ty n, v, h => by unfold Den at h ⊢; exact h
  | .at a, v, h => by unfold Den at h ⊢; exact h
  | .tup ds, v, h => by
    unfold Den at h ⊢
    obtain ⟨p, vs, e, s, l⟩ := h
    exact ⟨p, vs, e, g.stT s, DenL.grow g ds vs l⟩
  | .lst ds, v, h => by
    unfold Den at h ⊢
    obtain ⟨p, vs, e, s, l⟩ := h
    exact ⟨p, vs, e, g p _ s.1 s.2, DenL.grow g ds vs l⟩
  | .frz ds, v, h => by
    unfold Den at h ⊢
    obtain ⟨p, vs, e, s, l⟩ := h
    exact ⟨p, vs, e, g.stS s, DenL.grow g ds vs l⟩
  | .dct ks ds, v, h => by
    unfold Den at h ⊢
    obtain ⟨p, vs, e, s, n, l⟩ := h
    exact ⟨p, vs, e, g p _ s.1 s.2, n, DenL.grow g ds vs l⟩
  | .obj C fs ds, v, h => by
    unfold Den at h ⊢
    obtain ⟨p, dx, vs, e, s, n, l⟩ := h
    exact ⟨p, dx, vs, e, g p _ s.1 s.2, n, DenL.grow g ds vs l⟩
  | .exc C d, v, h => by
    unfold Den at h ⊢
    obtain ⟨p, dx, w, e, s, t, l⟩ := h
    exact ⟨p, dx, w, e, g p _ s.1 s.2, g dx _ t.1 t.2, Den.grow g d w l⟩
theorem DenL.grow {K : PySem.W.Frag} {μ μ' : Mu} {H H' : Hp} (g : Grow μ H μ' H') : ∀ (ds : List D) (vs : List V), DenL K μ H ds vs → DenL K μ' H' ds vs
  | [], vs, h => by unfold DenL at h ⊢; exact h
  | d :: ds, vs, h => by
    unfold DenL at h ⊢
    obtain ⟨w, ws, e, a, b⟩ := h
    exact ⟨w, ws, e, Den.grow g d w a, DenL.grow g ds ws b⟩
end
/-- fewer things that may change -/
def Less (μ μ' : Mu) : Prop := ∀ b, μ b = none → μ' b = none
mutual
theorem Den.less {K : PySem.W.Frag} {μ μ' : Mu} {H : Hp} (g : Less μ μ') : ∀ (d : D) (v : V), Den K μ H d v → Den K μ' H d v
  | .non, v, h => by unfold Den at h ⊢; exact h
  | .bl b, v, h => by unfold Den at h ⊢; exact h
  | .int i, v, h => by unfold Den at h ⊢; exact h
  | .str x, v, h => by unfold Den at h ⊢; exact h
  | .ty n, v, h => by unfold Den at h ⊢; exact h
  | .at a, v, h => by unfold Den at h ⊢; exact h
  | .tup ds, v, h => by
    unfold Den at h ⊢
    obtain ⟨p, vs, e, s, l⟩ := h
    refine ⟨p, vs, e, ?_, DenL.less g ds vs l⟩
    rcases s with ⟨a, b⟩ | s
    · exact .inl ⟨g _ a, b⟩
    · exact .inr s
  | .lst ds, v, h => by
    unfold Den at h ⊢
    obtain ⟨p, vs, e, s, l⟩ := h
    exact ⟨p, vs, e, ⟨g _ s.1, s.2⟩, DenL.less g ds vs l⟩
  | .frz ds, v, h => by
    unfold Den at h ⊢
    obtain ⟨p, vs, e, s, l⟩ := h
    refine ⟨p, vs, e, ?_, DenL.less g ds vs l⟩
    rcases s with ⟨a, b⟩ | s
    · exact .inl ⟨g _ a, b⟩
    · exact .inr s
  | .dct ks ds, v, h => by
    unfold Den at h ⊢
    obtain ⟨p, vs, e, s, n, l⟩ := h
    exact ⟨p, vs, e, ⟨g _ s.1, s.2⟩, n, DenL.less g ds vs l⟩
  | .obj C fs ds, v, h => by
    unfold Den at h ⊢
    obtain ⟨p, dx, vs, e, s, n, l⟩ := h
    exact ⟨p, dx, vs, e, ⟨g _ s.1, s.2⟩, n, DenL.less g ds vs l⟩
  | .exc C d, v, h => by
    unfold Den at h ⊢
    obtain ⟨p, dx, w, e, s, t, l⟩ := h
    exact ⟨p, dx, w, e, ⟨g _ s.1, s.2⟩, ⟨g _ t.1, t.2⟩, Den.less g d w l⟩
theorem DenL.less {K : PySem.W.Frag} {μ μ' : Mu} {H : Hp} (g : Less μ μ') : ∀ (ds : List D) (vs : List V), DenL K μ H ds vs → DenL K μ' H ds vs
  | [], vs, h => by unfold DenL at h ⊢; exact h
  | d :: ds, vs, h => by
    unfold DenL at h ⊢
    obtain ⟨w, ws, e, a, b⟩ := h
    exact ⟨w, ws, e, Den.less g d w a, DenL.less g ds ws b⟩
end

/-- the object at a is what the store says -/
def MoIs (K : PySem.W.Frag) (μ : Mu) (H : Hp) (a : Addr) : MO → Prop
  | .lst ds => ∃ vs, H a = some (.lst vs) ∧ DenL K μ H ds vs
  | .dct ks ds => ∃ vs, H a = some (.dK (ks.zip vs)) ∧ ks.length = vs.length ∧ DenL K μ H ds vs
  | .obj C fs ds => ∃ dx vs, H a = some (.ins C dx (fs.zip vs)) ∧ fs.length = vs.length ∧ DenL K μ H ds vs
def Mem (K : PySem.W.Frag) (μ : Mu) (H : Hp) : Prop := ∀ a o, μ a = some o → MoIs K μ H a o
/-- the slots -/
def EnvIs (K : PySem.W.Frag) (μ : Mu) (H : Hp) (ρ : Ro) (σ : L2.St) : Prop := σ.length = ρ.length ∧ ∀ (i : Nat) (d : D), ρ[i]? = some (some d) → ∃ v, σ[i]? = some (some v) ∧ Den K μ H d v

section
variable {K : PySem.W.Frag} {μ μ' : Mu} {H H' : Hp} {a : Addr} {ρ : Ro} {σ : L2.St}
theorem Mem.has (m : Mem K μ H) {o : MO} (h : μ a = some o) : ∃ u, H a = some u := by
  have q := m a o h
  cases o with
  | lst ds => obtain ⟨vs, e, _⟩ := q; exact ⟨_, e⟩
  | dct ks ds => obtain ⟨vs, e, _⟩ := q; exact ⟨_, e⟩
  | obj C fs ds => obtain ⟨dx, vs, e, _⟩ := q; exact ⟨_, e⟩
theorem Mem.free (m : Mem K μ H) (h : H a = none) : μ a = none := by
  cases e : μ a with
  | none => rfl
  | some o =>
    obtain ⟨u, q⟩ := m.has e
    rw [h] at q; cases q
theorem MoIs.grow (g : Grow μ H μ' H') {o : MO} (h : MoIs K μ H a o) (e : H' a = H a) : MoIs K μ' H' a o := by
  cases o with
  | lst ds => obtain ⟨vs, q, l⟩ := h; exact ⟨vs, e.trans q, DenL.grow g _ _ l⟩
  | dct ks ds => obtain ⟨vs, q, n, l⟩ := h; exact ⟨vs, e.trans q, n, DenL.grow g _ _ l⟩
  | obj C fs ds => obtain ⟨dx, vs, q, n, l⟩ := h; exact ⟨dx, vs, e.trans q, n, DenL.grow g _ _ l⟩
/-- a new object that is not to change -/
theorem Grow.new {o : HO} (h : H a = none) : Grow μ H μ (upd H a o) := fun b u hb e => ⟨hb, by rw [upd_ne (ne_of_none e h)]; exact e⟩
theorem Mem.new {o : HO} (m : Mem K μ H) (h : H a = none) : Mem K μ (upd H a o) := fun b u e => by
  obtain ⟨w, hw⟩ := m.has e
  exact (m b u e).grow (Grow.new h) (upd_ne (ne_of_none hw h))
/-- a new object that may change -/
theorem Grow.newM {o : HO} {mo : MO} (h : H a = none) : Grow μ H (mput μ a mo) (upd H a o) := fun b u hb e => by
  have ne := ne_of_none e h
  exact ⟨by rw [mput_ne ne]; exact hb, by rw [upd_ne ne]; exact e⟩
theorem Mem.newM {o : HO} {mo : MO} (m : Mem K μ H) (h : H a = none) (n : MoIs K (mput μ a mo) (upd H a o) a mo) : Mem K (mput μ a mo) (upd H a o) := fun b u e => by
  by_cases hb : b = a
  · subst hb
    rw [mput_same] at e; cases e; exact n
  · rw [mput_ne hb] at e
    obtain ⟨w, hw⟩ := m.has e
    exact (m b u e).grow (Grow.newM h) (upd_ne hb)
/-- something that may change does -/
theorem Grow.wr {o : HO} {mo mo' : MO} (h : μ a = some mo) : Grow μ H (mput μ a mo') (upd H a o) := fun b u hb e => by
  have ne : b ≠ a := fun z => by rw [z, h] at hb; cases hb
  exact ⟨by rw [mput_ne ne]; exact hb, by rw [upd_ne ne]; exact e⟩
theorem Mem.wr {o : HO} {mo mo' : MO} (m : Mem K μ H) (h : μ a = some mo) (n : MoIs K (mput μ a mo') (upd H a o) a mo') : Mem K (mput μ a mo') (upd H a o) := fun b u e => by
  by_cases hb : b = a
  · subst hb
    rw [mput_same] at e; cases e; exact n
  · rw [mput_ne hb] at e
    exact (m b u e).grow (Grow.wr h) (upd_ne hb)
theorem Less.cut : Less μ (mcut μ a) := fun b h => by
  by_cases e : b = a
  · rw [e, mcut_same]
  · rw [mcut_ne e]; exact h
theorem MoIs.less (g : Less μ μ') {o : MO} (h : MoIs K μ H a o) : MoIs K μ' H a o := by
  cases o with
  | lst ds => obtain ⟨vs, q, l⟩ := h; exact ⟨vs, q, DenL.less g _ _ l⟩
  | dct ks ds => obtain ⟨vs, q, n, l⟩ := h; exact ⟨vs, q, n, DenL.less g _ _ l⟩
  | obj C fs ds => obtain ⟨dx, vs, q, n, l⟩ := h; exact ⟨dx, vs, q, n, DenL.less g _ _ l⟩
theorem Mem.less (m : Mem K μ H) (g : Less μ μ') (h : ∀ b o, μ' b = some o → μ b = some o) : Mem K μ' H := fun b o e => (m b o (h b o e)).less g
theorem Mem.cut (m : Mem K μ H) : Mem K (mcut μ a) H := m.less Less.cut fun b o e => by
  by_cases h : b = a
  · rw [h, mcut_same] at e; cases e
  · rw [mcut_ne h] at e; exact e
theorem Grow.cut : Grow μ H (mcut μ a) H := fun b o h e => ⟨Less.cut b h, e⟩
/-- forgetting in the store: a Grow ahead of it stands -/
theorem EnvIs.grow (g : Grow μ H μ' H') (h : EnvIs K μ H ρ σ) : EnvIs K μ' H' ρ σ := ⟨h.1, fun i d e => by
  obtain ⟨v, q, r⟩ := h.2 i d e
  exact ⟨v, q, Den.grow g _ _ r⟩⟩
theorem EnvIs.less (g : Less μ μ') (h : EnvIs K μ H ρ σ) : EnvIs K μ' H ρ σ := ⟨h.1, fun i d e => by
  obtain ⟨v, q, r⟩ := h.2 i d e
  exact ⟨v, q, Den.less g _ _ r⟩⟩
theorem EnvIs.set (h : EnvIs K μ H ρ σ) {d : D} {v : V} (r : Den K μ H d v) (i : Nat) : EnvIs K μ H (ρ.set i (some d)) (σ.set i (some v)) := ⟨by rw [List.length_set, List.length_set]; exact h.1, fun j e q => by
  by_cases hj : i = j
  · subst hj
    by_cases hl : i < ρ.length
    · rw [List.getElem?_set_self hl] at q
      cases q
      exact ⟨v, by rw [List.getElem?_set_self (by rw [h.1]; exact hl)], r⟩
    · rw [List.getElem?_eq_none (by rw [List.length_set]; omega)] at q
      cases q
  · rw [List.getElem?_set_ne hj] at q ⊢
    exact h.2 j e q⟩
theorem EnvIs.unset (h : EnvIs K μ H ρ σ) (i : Nat) : EnvIs K μ H (ρ.set i none) (σ.set i none) := ⟨by rw [List.length_set, List.length_set]; exact h.1, fun j e q => by
  by_cases hj : i = j
  · subst hj
    by_cases hl : i < ρ.length
    · rw [List.getElem?_set_self hl] at q
      cases q
    · rw [List.getElem?_eq_none (by rw [List.length_set]; omega)] at q
      cases q
  · rw [List.getElem?_set_ne hj] at q ⊢
    exact h.2 j e q⟩
theorem DenL.length : ∀ {ds : List D} {vs : List V}, DenL K μ H ds vs → ds.length = vs.length
  | [], vs, h => by unfold DenL at h; rw [h] <;> rfl
  | d :: ds, vs, h => by
    unfold DenL at h
    obtain ⟨w, ws, e, _, b⟩ := h
    rw [e, List.length_cons, List.length_cons, DenL.length b]
theorem DenL.get : ∀ {ds : List D} {vs : List V} {i : Nat} {d : D}, DenL K μ H ds vs → ds[i]? = some d → ∃ v, vs[i]? = some v ∧ Den K μ H d v
  | [], vs, i, d, h, e => by simp at e
  | x :: ds, vs, 0, d, h, e => by
    unfold DenL at h
    obtain ⟨w, ws, q, a, b⟩ := h
    have e' : x = d := by simpa using e
    subst e'
    exact ⟨w, by rw [q]; rfl, a⟩
  | x :: ds, vs, i + 1, d, h, e => by
    unfold DenL at h
    obtain ⟨w, ws, q, a, b⟩ := h
    obtain ⟨v, h1, h2⟩ := DenL.get (i := i) (d := d) b (by simpa using e)
    exact ⟨v, by rw [q]; simpa using h1, h2⟩
theorem DenL.at : ∀ {ds : List D} {vs : List V} {i : Nat} {v : V}, DenL K μ H ds vs → vs[i]? = some v → ∃ d, ds[i]? = some d ∧ Den K μ H d v := fun {ds vs i v} h e => by
  have hl := h.length
  have hi : i < vs.length := (List.getElem?_eq_some_iff.mp e).1
  obtain ⟨v', h1, h2⟩ := h.get (i := i) (d := ds[i]'(by omega)) (by simp)
  rw [e] at h1
  cases h1
  exact ⟨_, List.getElem?_eq_getElem (by omega), h2⟩
theorem DenL.nil : DenL K μ H [] [] := by unfold DenL; rfl
theorem DenL.cons {d : D} {ds : List D} {v : V} {vs : List V} (a : Den K μ H d v) (b : DenL K μ H ds vs) : DenL K μ H (d :: ds) (v :: vs) := by
  unfold DenL; exact ⟨v, vs, rfl, a, b⟩
theorem DenL.append : ∀ {ds es : List D} {vs ws : List V}, DenL K μ H ds vs → DenL K μ H es ws → DenL K μ H (ds ++ es) (vs ++ ws)
  | [], es, vs, ws, h, k => by unfold DenL at h; rw [h]; exact k
  | d :: ds, es, vs, ws, h, k => by
    unfold DenL at h
    obtain ⟨w, us, e, a, b⟩ := h
    rw [e]
    exact DenL.cons a (DenL.append b k)
theorem DenL.set {d : D} {v : V} (r : Den K μ H d v) : ∀ {ds : List D} {vs : List V} (i : Nat), DenL K μ H ds vs → DenL K μ H (ds.set i d) (vs.set i v)
  | [], vs, i, h => by unfold DenL at h; rw [h]; exact DenL.nil
  | x :: ds, vs, 0, h => by
    unfold DenL at h
    obtain ⟨w, us, e, a, b⟩ := h
    rw [e]; exact DenL.cons r b
  | x :: ds, vs, i + 1, h => by
    unfold DenL at h
    obtain ⟨w, us, e, a, b⟩ := h
    rw [e]; exact DenL.cons a (DenL.set r i b)
end
abbrev XD := Mu → Ro → Addr → D → Prop
abbrev DP := Mu → D → Prop
/-- the wish about exceptions, over data -/
def LiftX (K : PySem.W.Frag) (μ : Mu) (H : Hp) (X : XD) (W : WX) : Prop := ∀ μ' ρ' C d dx v σ' H', X μ' ρ' C d → Grow μ H μ' H' → Mem K μ' H' → EnvIs K μ' H' ρ' σ' → μ' dx = none → H' dx = some (.xd [(("value" : Str), v)]) → Den K μ' H' d v → W (.ref C) (some dx) σ' H'
def EvX (K : PySem.W.Frag) (W : WX) (X : XD) (μ : Mu) (ρ : Ro) (te : TE) (Φ : DP) : Prop := ∀ (σ : L2.St) (H : Hp) (Q : VK), Mem K μ H → EnvIs K μ H ρ σ → LiftX K μ H X W → (∀ μ' d v H', Φ μ' d → Grow μ H μ' H' → Mem K μ' H' → Den K μ' H' d v → Q v H') → te σ H Q
def EvB (K : PySem.W.Frag) (W : WX) (X : XD) (μ : Mu) (ρ : Ro) (tt : TT) (Φ : Mu → Bool → Prop) : Prop := ∀ (σ : L2.St) (H : Hp) (Q : Bool → Hp → Prop), Mem K μ H → EnvIs K μ H ρ σ → LiftX K μ H X W → (∀ μ' b H', Φ μ' b → Grow μ H μ' H' → Mem K μ' H' → Q b H') → tt σ H Q
def EvL (K : PySem.W.Frag) (W : WX) (X : XD) (μ : Mu) (ρ : Ro) (ta : TA) (Φ : Mu → List D → Prop) : Prop := ∀ (σ : L2.St) (H : Hp) (Q : List V → Hp → Prop), Mem K μ H → EnvIs K μ H ρ σ → LiftX K μ H X W → (∀ μ' ds vs H', Φ μ' ds → Grow μ H μ' H' → Mem K μ' H' → DenL K μ' H' ds vs → Q vs H') → ta σ H Q
/-- a two-place operation, a call of a built-in, over data -/
def OpX (K : PySem.W.Frag) (r : R2) (μ : Mu) (x y : D) (Φ : DP) : Prop := ∀ (H : Hp) (v w : V) (Q : VK), Mem K μ H → Den K μ H x v → Den K μ H y w → (∀ μ' d u H', Φ μ' d → Grow μ H μ' H' → Mem K μ' H' → Den K μ' H' d u → Q u H') → r v w H Q
def UnX (K : PySem.W.Frag) (r : V → Hp → VK → Prop) (μ : Mu) (x : D) (Φ : DP) : Prop := ∀ (H : Hp) (v : V) (Q : VK), Mem K μ H → Den K μ H x v → (∀ μ' d u H', Φ μ' d → Grow μ H μ' H' → Mem K μ' H' → Den K μ' H' d u → Q u H') → r v H Q
def CaX (K : PySem.W.Frag) (r : List V → Hp → VK → Prop) (μ : Mu) (xs : List D) (Φ : DP) : Prop := ∀ (H : Hp) (vs : List V) (Q : VK), Mem K μ H → DenL K μ H xs vs → (∀ μ' d u H', Φ μ' d → Grow μ H μ' H' → Mem K μ' H' → Den K μ' H' d u → Q u H') → r vs H Q
/-- what is wanted behind a statement, over data -/
structure ED where
  nx : Mu → Ro → Prop
  rt : DP
  bk : Mu → Ro → Prop := fun _ _ => False
  ct : Mu → Ro → Prop := fun _ _ => False
structure Lift (K : PySem.W.Frag) (μ : Mu) (H : Hp) (E : ED) (D : Ends) : Prop where
  nx : ∀ μ' ρ' σ' H', E.nx μ' ρ' → Grow μ H μ' H' → Mem K μ' H' → EnvIs K μ' H' ρ' σ' → D.nx σ' H'
  rt : ∀ μ' d v H', E.rt μ' d → Grow μ H μ' H' → Mem K μ' H' → Den K μ' H' d v → D.rt v H'
  bk : ∀ μ' ρ' σ' H', E.bk μ' ρ' → Grow μ H μ' H' → Mem K μ' H' → EnvIs K μ' H' ρ' σ' → D.bk σ' H'
  ct : ∀ μ' ρ' σ' H', E.ct μ' ρ' → Grow μ H μ' H' → Mem K μ' H' → EnvIs K μ' H' ρ' σ' → D.ct σ' H'
def GS (K : PySem.W.Frag) (W : WX) (X : XD) (μ : Mu) (ρ : Ro) (t : TS) (E : ED) : Prop := ∀ (σ : L2.St) (H : Hp) (Dd : Ends), Mem K μ H → EnvIs K μ H ρ σ → LiftX K μ H X W → Lift K μ H E Dd → t Dd σ H
/-- a target -/
def TgX (K : PySem.W.Frag) (W : WX) (X : XD) (μ : Mu) (ρ : Ro) (g : TG) (d : D) (Φ : Mu → Ro → Prop) : Prop := ∀ (σ : L2.St) (H : Hp) (v : V) (Q : L2.St → Hp → Prop), Mem K μ H → EnvIs K μ H ρ σ → LiftX K μ H X W → Den K μ H d v → (∀ μ' ρ' σ' H', Φ μ' ρ' → Grow μ H μ' H' → Mem K μ' H' → EnvIs K μ' H' ρ' σ' → Q σ' H') → g v σ H Q
def TgsX (K : PySem.W.Frag) (W : WX) (X : XD) (μ : Mu) (ρ : Ro) (g : TGs) (ds : List D) (Φ : Mu → Ro → Prop) : Prop := ∀ (σ : L2.St) (H : Hp) (vs : List V) (Q : L2.St → Hp → Prop), Mem K μ H → EnvIs K μ H ρ σ → LiftX K μ H X W → DenL K μ H ds vs → (∀ μ' ρ' σ' H', Φ μ' ρ' → Grow μ H μ' H' → Mem K μ' H' → EnvIs K μ' H' ρ' σ' → Q σ' H') → g vs σ H Q

section
variable {K : PySem.W.Frag} {W : WX} {X : XD} {μ μ' : Mu} {H H' : Hp} {ρ : Ro} {E : ED} {Dd : Ends} {ta tb te tx : TE} {tt tu : TT} {Φ : DP} {Ψ : Mu → Bool → Prop}
theorem LiftX.grow (l : LiftX K μ H X W) (g : Grow μ H μ' H') : LiftX K μ' H' X W := fun m r C d dx v s h x gr => l m r C d dx v s h x (g.trans gr)
theorem Lift.grow (l : Lift K μ H E Dd) (g : Grow μ H μ' H') : Lift K μ' H' E Dd :=
  ⟨fun m r s h x gr => l.nx m r s h x (g.trans gr), fun m r s h x gr => l.rt m r s h x (g.trans gr), fun m r s h x gr => l.bk m r s h x (g.trans gr), fun m r s h x gr => l.ct m r s h x (g.trans gr)⟩
/-! ### expressions -/
theorem evx_var {i : Nat} {d : D} (h : ρ[i]? = some (some d)) (q : Φ μ d) : EvX K W X μ ρ (tVar i) Φ := fun σ H Q m e _ k => by
  obtain ⟨v, h1, h2⟩ := e.2 i d h
  exact ⟨v, h1, k μ d v H q (Grow.refl _ _) m h2⟩
theorem evx_int {n : Int} (q : Φ μ (.int n)) : EvX K W X μ ρ (tC (.int n)) Φ := fun σ H Q m _ _ k => k μ _ _ H q (Grow.refl _ _) m (by unfold Den; rfl)
theorem evx_str {n : Str} (q : Φ μ (.str n)) : EvX K W X μ ρ (tC (.str n)) Φ := fun σ H Q m _ _ k => k μ _ _ H q (Grow.refl _ _) m (by unfold Den; rfl)
theorem evx_bl {n : Bool} (q : Φ μ (.bl n)) : EvX K W X μ ρ (tC (.bl n)) Φ := fun σ H Q m _ _ k => k μ _ _ H q (Grow.refl _ _) m (by unfold Den; rfl)
theorem evx_non (q : Φ μ .non) : EvX K W X μ ρ (tC .non) Φ := fun σ H Q m _ _ k => k μ _ _ H q (Grow.refl _ _) m (by unfold Den; rfl)
theorem evx_ty {n : String} (q : Φ μ (.ty n)) : EvX K W X μ ρ (tC (.ty n)) Φ := fun σ H Q m _ _ k => k μ _ _ H q (Grow.refl _ _) m (by unfold Den; rfl)
/-- the address of something of the module: a class, a def -/
theorem evx_at {a : Addr} (q : Φ μ (.at a)) : EvX K W X μ ρ (tC (.ref a)) Φ := fun σ H Q m _ _ k => k μ _ _ H q (Grow.refl _ _) m (by unfold Den; rfl)
theorem EvX.imp {Φ' : DP} (h : EvX K W X μ ρ te Φ) (i : ∀ m d, Φ m d → Φ' m d) : EvX K W X μ ρ te Φ' := fun σ H Q m e l k => h σ H Q m e l fun m' d v H' p => k m' d v H' (i m' d p)
theorem evx_op {r : R2} (h : EvX K W X μ ρ ta fun μ1 x => EvX K W X μ1 ρ tb fun μ2 y => OpX K r μ2 x y Φ) : EvX K W X μ ρ (tOp r ta tb) Φ := fun σ H Q m e l k =>
  h σ H _ m e l fun μ1 x v H1 h1 g1 m1 d1 => h1 σ H1 _ m1 (e.grow g1) (l.grow g1) fun μ2 y w H2 h2 g2 m2 d2 => h2 H2 v w Q m2 (Den.grow g2 _ _ d1) d2 fun μ' d u H' p g => k μ' d u H' p ((g1.trans g2).trans g)
theorem evx_un {r : V → Hp → VK → Prop} (h : EvX K W X μ ρ ta fun μ1 x => UnX K r μ1 x Φ) : EvX K W X μ ρ (tUn r ta) Φ := fun σ H Q m e l k =>
  h σ H _ m e l fun μ1 x v H1 h1 g1 m1 d1 => h1 H1 v Q m1 d1 fun μ' d u H' p g => k μ' d u H' p (g1.trans g)
theorem evl_nil {Φ : Mu → List D → Prop} (h : Φ μ []) : EvL K W X μ ρ tNil Φ := fun σ H Q m e l k => k μ [] [] H h (Grow.refl _ _) m DenL.nil
theorem evl_cons {tr : TA} {Φ : Mu → List D → Prop} (h : EvX K W X μ ρ te fun μ1 x => EvL K W X μ1 ρ tr fun μ2 ds => Φ μ2 (x :: ds)) : EvL K W X μ ρ (tCons te tr) Φ := fun σ H Q m e l k =>
  h σ H _ m e l fun μ1 x v H1 h1 g1 m1 d1 => h1 σ H1 _ m1 (e.grow g1) (l.grow g1) fun μ2 ds vs H2 h2 g2 m2 d2 => k μ2 _ _ H2 h2 (g1.trans g2) m2 (DenL.cons (Den.grow g2 _ _ d1) d2)
theorem evx_cb {r : List V → Hp → VK → Prop} {t : TA} (h : EvL K W X μ ρ t fun μ1 ds => CaX K r μ1 ds Φ) : EvX K W X μ ρ (tCB r t) Φ := fun σ H Q m e l k =>
  h σ H _ m e l fun μ1 ds vs H1 h1 g1 m1 d1 => h1 H1 vs Q m1 d1 fun μ' d u H' p g => k μ' d u H' p (g1.trans g)
/-! ### displays -/
theorem evx_tup {t : TA} (h : EvL K W X μ ρ t fun μ1 ds => ds.length ≤ 1000 ∧ Φ μ1 (.tup ds)) : EvX K W X μ ρ (tTup t) Φ := fun σ H Q m e l k =>
  h σ H _ m e l fun μ1 ds vs H1 h1 g1 m1 d1 => ⟨by rw [← d1.length]; exact Nat.le_trans h1.1 (by decide), fun p hp => k μ1 _ _ _ h1.2 (g1.trans (Grow.new hp)) (m1.new hp) (by
    unfold Den
    exact ⟨p, vs, rfl, .inl ⟨m1.free hp, .inl upd_same⟩, DenL.grow (Grow.new hp) _ _ d1⟩)⟩
theorem evx_lst {t : TA} (h : EvL K W X μ ρ t fun μ1 ds => ds.length ≤ 1000 ∧ Φ μ1 (.lst ds)) : EvX K W X μ ρ (tLst t) Φ := fun σ H Q m e l k =>
  h σ H _ m e l fun μ1 ds vs H1 h1 g1 m1 d1 => ⟨by rw [← d1.length]; exact Nat.le_trans h1.1 (by decide), fun p hp => k μ1 _ _ _ h1.2 (g1.trans (Grow.new hp)) (m1.new hp) (by
    unfold Den
    exact ⟨p, vs, rfl, ⟨m1.free hp, upd_same⟩, DenL.grow (Grow.new hp) _ _ d1⟩)⟩
/-- a list that will change -/
theorem evx_lstM {t : TA} (h : EvL K W X μ ρ t fun μ1 ds => ds.length ≤ 1000 ∧ ∀ p, μ1 p = none → Φ (mput μ1 p (.lst ds)) (.at p)) : EvX K W X μ ρ (tLst t) Φ := fun σ H Q m e l k =>
  h σ H _ m e l fun μ1 ds vs H1 h1 g1 m1 d1 => ⟨by rw [← d1.length]; exact Nat.le_trans h1.1 (by decide), fun p hp => k _ _ _ _ (h1.2 p (m1.free hp)) (g1.trans (Grow.newM hp)) (m1.newM hp ⟨vs, upd_same, DenL.grow (Grow.newM hp) _ _ d1⟩) (by unfold Den; rfl)⟩
/-! ### tests -/
theorem EvB.imp {Ψ' : Mu → Bool → Prop} (h : EvB K W X μ ρ tt Ψ) (i : ∀ m d, Ψ m d → Ψ' m d) : EvB K W X μ ρ tt Ψ' := fun σ H Q m e l k => h σ H Q m e l fun m' d H' p => k m' d H' (i m' d p)
theorem evb_test (h : EvX K W X μ ρ te fun μ1 d => ∃ b, d = .bl b ∧ Ψ μ1 b) : EvB K W X μ ρ (tTest te) Ψ := fun σ H Q m e l k =>
  h σ H _ m e l fun μ1 d v H1 ⟨b, hd, hp⟩ g1 m1 d1 => ⟨b, by subst hd; unfold Den at d1; exact d1, k μ1 b H1 hp g1 m1⟩
theorem evb_B (h : EvX K W X μ ρ te fun μ1 d => ∃ b, d = .bl b ∧ Ψ μ1 b) : EvB K W X μ ρ (tB te) Ψ := fun σ H Q m e l k =>
  h σ H _ m e l fun μ1 d v H1 ⟨b, hd, hp⟩ g1 m1 d1 => ⟨b, by subst hd; unfold Den at d1; exact d1, k μ1 b H1 hp g1 m1⟩
theorem evb_and (h : EvB K W X μ ρ tt fun μ1 b => if b = true then EvB K W X μ1 ρ tu Ψ else Ψ μ1 false) : EvB K W X μ ρ (tAnd tt tu) Ψ := fun σ H Q m e l k =>
  h σ H _ m e l fun μ1 b H1 h1 g1 m1 => by
    cases b with
    | true => rw [if_pos rfl] at h1 ⊢; exact h1 σ H1 Q m1 (e.grow g1) (l.grow g1) fun μ' b H' p g => k μ' b H' p (g1.trans g)
    | false => rw [if_neg (by decide)] at h1 ⊢; exact k μ1 _ H1 h1 g1 m1
theorem evb_or (h : EvB K W X μ ρ tt fun μ1 b => if b = true then Ψ μ1 true else EvB K W X μ1 ρ tu Ψ) : EvB K W X μ ρ (tOr tt tu) Ψ := fun σ H Q m e l k =>
  h σ H _ m e l fun μ1 b H1 h1 g1 m1 => by
    cases b with
    | false => rw [if_neg (by decide)] at h1 ⊢; exact h1 σ H1 Q m1 (e.grow g1) (l.grow g1) fun μ' b H' p g => k μ' b H' p (g1.trans g)
    | true => rw [if_pos rfl] at h1 ⊢; exact k μ1 _ H1 h1 g1 m1
theorem evb_not (h : EvB K W X μ ρ tt fun μ1 b => Ψ μ1 (!b)) : EvB K W X μ ρ (tNot tt) Ψ := fun σ H Q m e l k => h σ H _ m e l fun μ1 b H1 h1 g1 m1 => k μ1 _ H1 h1 g1 m1
theorem evx_andV (h : EvX K W X μ ρ ta fun μ1 d => ∃ b, d = .bl b ∧ if b = true then EvX K W X μ1 ρ tb Φ else Φ μ1 (.bl false)) : EvX K W X μ ρ (tAndV ta tb) Φ := fun σ H Q m e l k =>
  h σ H _ m e l fun μ1 d v H1 ⟨b, hd, h1⟩ g1 m1 d1 => ⟨b, by subst hd; unfold Den at d1; exact d1, by
    cases b with
    | true => rw [if_pos rfl] at h1 ⊢; exact h1 σ H1 Q m1 (e.grow g1) (l.grow g1) fun μ' b v H' p g => k μ' b v H' p (g1.trans g)
    | false => rw [if_neg (by decide)] at h1 ⊢; exact k μ1 _ _ H1 h1 g1 m1 (by unfold Den; rfl)⟩
theorem evx_orV (h : EvX K W X μ ρ ta fun μ1 d => ∃ b, d = .bl b ∧ if b = true then Φ μ1 (.bl true) else EvX K W X μ1 ρ tb Φ) : EvX K W X μ ρ (tOrV ta tb) Φ := fun σ H Q m e l k =>
  h σ H _ m e l fun μ1 d v H1 ⟨b, hd, h1⟩ g1 m1 d1 => ⟨b, by subst hd; unfold Den at d1; exact d1, by
    cases b with
    | false => rw [if_neg (by decide)] at h1 ⊢; exact h1 σ H1 Q m1 (e.grow g1) (l.grow g1) fun μ' b v H' p g => k μ' b v H' p (g1.trans g)
    | true => rw [if_pos rfl] at h1 ⊢; exact k μ1 _ _ H1 h1 g1 m1 (by unfold Den; rfl)⟩
theorem evx_notV (h : EvX K W X μ ρ ta fun μ1 d => ∃ b, d = .bl b ∧ Φ μ1 (.bl (!b))) : EvX K W X μ ρ (tNotV ta) Φ := fun σ H Q m e l k =>
  h σ H _ m e l fun μ1 d v H1 ⟨b, hd, h1⟩ g1 m1 d1 => ⟨b, by subst hd; unfold Den at d1; exact d1, k μ1 _ _ H1 h1 g1 m1 (by unfold Den; rfl)⟩
theorem evx_if (h : EvB K W X μ ρ tt fun μ1 b => if b = true then EvX K W X μ1 ρ ta Φ else EvX K W X μ1 ρ tb Φ) : EvX K W X μ ρ (tIf tt ta tb) Φ := fun σ H Q m e l k =>
  h σ H _ m e l fun μ1 b H1 h1 g1 m1 => by
    cases b with
    | true => rw [if_pos rfl] at h1 ⊢; exact h1 σ H1 Q m1 (e.grow g1) (l.grow g1) fun μ' b v H' p g => k μ' b v H' p (g1.trans g)
    | false => rw [if_neg (by decide)] at h1 ⊢; exact h1 σ H1 Q m1 (e.grow g1) (l.grow g1) fun μ' b v H' p g => k μ' b v H' p (g1.trans g)
/-! ### statements -/
variable {t u : TS} {g : TG}
theorem GS.imp {E' : ED} (h : GS K W X μ ρ t E) (h1 : ∀ m r, E.nx m r → E'.nx m r) (h2 : ∀ m r, E.rt m r → E'.rt m r) (h3 : ∀ m r, E.bk m r → E'.bk m r) (h4 : ∀ m r, E.ct m r → E'.ct m r) : GS K W X μ ρ t E' := fun σ H D m e l k =>
  h σ H D m e l ⟨fun m r s h x => k.nx m r s h (h1 m r x), fun m r s h x => k.rt m r s h (h2 m r x), fun m r s h x => k.bk m r s h (h3 m r x), fun m r s h x => k.ct m r s h (h4 m r x)⟩
theorem gs_seq (h : GS K W X μ ρ t { E with nx := fun μ1 ρ1 => GS K W X μ1 ρ1 u E }) : GS K W X μ ρ (tSeq t u) E := fun σ H D m e l k =>
  h σ H { D with nx := u D } m e l ⟨fun m' r s h x gr mm ee => x s h D mm ee (l.grow gr) (k.grow gr), k.rt, k.bk, k.ct⟩
theorem gs_next (h : E.nx μ ρ) : GS K W X μ ρ tNext E := fun σ H D m e _ k => k.nx μ ρ σ H h (Grow.refl _ _) m e
theorem gs_break (h : E.bk μ ρ) : GS K W X μ ρ tBreak E := fun σ H D m e _ k => k.bk μ ρ σ H h (Grow.refl _ _) m e
theorem gs_cont (h : E.ct μ ρ) : GS K W X μ ρ tCont E := fun σ H D m e _ k => k.ct μ ρ σ H h (Grow.refl _ _) m e
theorem gs_ret (h : EvX K W X μ ρ te E.rt) : GS K W X μ ρ (tRet te) E := fun σ H D m e l k => h σ H _ m e l fun μ' d v H' p g mm dd => k.rt μ' d v H' p g mm dd
theorem gs_retN (h : E.rt μ .non) : GS K W X μ ρ tRetN E := fun σ H D m e l k => k.rt μ .non .non H h (Grow.refl _ _) m (by unfold Den; rfl)
theorem gs_drop (h : EvX K W X μ ρ te fun μ1 _ => E.nx μ1 ρ) : GS K W X μ ρ (tDrop te) E := fun σ H D m e l k => h σ H _ m e l fun μ' d v H' p g mm dd => k.nx μ' ρ σ H' p g mm (e.grow g)
theorem gs_if (h : EvB K W X μ ρ tt fun μ1 b => if b = true then GS K W X μ1 ρ t E else GS K W X μ1 ρ u E) : GS K W X μ ρ (tIfS tt t u) E := fun σ H D m e l k =>
  h σ H _ m e l fun μ1 b H1 h1 g1 m1 => by
    cases b with
    | true => rw [if_pos rfl] at h1 ⊢; exact h1 σ H1 D m1 (e.grow g1) (l.grow g1) (k.grow g1)
    | false => rw [if_neg (by decide)] at h1 ⊢; exact h1 σ H1 D m1 (e.grow g1) (l.grow g1) (k.grow g1)
theorem gs_asg (h : EvX K W X μ ρ te fun μ1 d => TgX K W X μ1 ρ g d E.nx) : GS K W X μ ρ (tAsg te g) E := fun σ H D m e l k =>
  h σ H _ m e l fun μ1 d v H1 h1 g1 m1 d1 => h1 σ H1 v _ m1 (e.grow g1) (l.grow g1) d1 fun μ' ρ' σ' H' p g' mm ee => k.nx μ' ρ' σ' H' p (g1.trans g') mm ee
theorem tgx_name {i : Nat} {d : D} {Φ : Mu → Ro → Prop} (h : Φ μ (ρ.set i (some d))) : TgX K W X μ ρ (gName i) d Φ := fun σ H v Q m e _ dd k => k μ _ _ H h (Grow.refl _ _) m (e.set dd i)
theorem tgsx_nil {Φ : Mu → Ro → Prop} (h : Φ μ ρ) : TgsX K W X μ ρ gNil [] Φ := fun σ H vs Q m e _ dd k => ⟨by unfold DenL at dd; exact dd, k μ ρ σ H h (Grow.refl _ _) m e⟩
theorem tgsx_cons {gs : TGs} {d : D} {ds : List D} {Φ : Mu → Ro → Prop} (h : TgX K W X μ ρ g d fun μ1 ρ1 => TgsX K W X μ1 ρ1 gs ds Φ) : TgsX K W X μ ρ (gCons g gs) (d :: ds) Φ := fun σ H vs Q m e l dd k => by
  unfold DenL at dd
  obtain ⟨w, ws, e1, a, b⟩ := dd
  exact ⟨w, ws, e1, h σ H w _ m e l a fun μ1 ρ1 σ1 H1 h1 g1 m1 ee1 => h1 σ1 H1 ws Q m1 ee1 (l.grow g1) (DenL.grow g1 _ _ b) fun μ' ρ' σ' H' p g => k μ' ρ' σ' H' p (g1.trans g)⟩
theorem tgx_tup {gs : TGs} {n : Nat} {ds : List D} {Φ : Mu → Ro → Prop} (hn : ds.length = n) (h : TgsX K W X μ ρ gs ds Φ) : TgX K W X μ ρ (gTup K n gs) (.tup ds) Φ := fun σ H v Q m e l dd k => by
  unfold Den at dd
  obtain ⟨p, vs, e1, s, b⟩ := dd
  exact ⟨p, vs, e1, s.sq, by rw [← b.length, hn], h σ H vs Q m e l b k⟩
/-- a, b = e1, e2 -/
theorem gs_par {i j : Nat} {ta : TA} (h : EvL K W X μ ρ ta fun μ1 ds => ∃ d d', ds = [d, d'] ∧ E.nx μ1 ((ρ.set i (some d)).set j (some d'))) : GS K W X μ ρ (tPar i j ta) E := fun σ H D m e l k =>
  h σ H _ m e l fun μ1 ds vs H1 ⟨d, d', e1, h1⟩ g1 m1 d1 => by
    subst e1
    unfold DenL at d1
    obtain ⟨w, ws, e2, a, b⟩ := d1
    unfold DenL at b
    obtain ⟨w', ws', e3, a', b'⟩ := b
    unfold DenL at b'
    subst b' e3 e2
    exact ⟨w, w', rfl, k.nx μ1 _ _ H1 h1 g1 m1 (((e.grow g1).set a i).set a' j)⟩
/-- x op= e -/
def IpX (K : PySem.W.Frag) (r : V → V → Hp → VK → Prop) := OpX K r
theorem gs_aug {i : Nat} {x : D} {ti : TIp} (hx : ρ[i]? = some (some x)) (h : EvX K W X μ ρ te fun μ1 y => OpX K ti μ1 x y fun μ2 z => E.nx μ2 (ρ.set i (some z))) : GS K W X μ ρ (tAug i te ti) E := fun σ H D m e l k => by
  obtain ⟨v, h1, h2⟩ := e.2 i x hx
  exact ⟨v, h1, h σ H _ m e l fun μ1 y w H1 q1 g1 m1 d1 => q1 H1 v w _ m1 (Den.grow g1 _ _ h2) d1 fun μ' d u H' p g mm dd => k.nx μ' _ _ H' p (g1.trans g) mm (((e.grow g1).grow g).set dd i)⟩
/-- a wider store may be forgotten -/
theorem gs_cut {p : Addr} (h : GS K W X (mcut μ p) ρ t E) : GS K W X μ ρ t E := fun σ H D m e l k => h σ H D m.cut (e.less Less.cut) (l.grow Grow.cut) (k.grow Grow.cut)
/-- a list that changed till now and will change no more -/
theorem gs_freeze {ρ' : Ro} {p : Addr} {ds : List D} {i : Nat} (hp : μ p = some (.lst ds)) (hi : ρ[i]? = some (some (.at p))) (he : ρ' = ρ.set i (some (.lst ds))) (h : GS K W X (mcut μ p) ρ' t E) : GS K W X μ ρ t E := fun σ H D m e l k => by
  obtain ⟨vs, h1, h2⟩ := m p _ hp
  obtain ⟨v, q1, q2⟩ := e.2 i _ hi
  unfold Den at q2
  subst q2
  have e' : EnvIs K (mcut μ p) H ρ' σ := by
    have q := (e.less (Less.cut (a := p))).set (d := .lst ds) (v := .ref p) (by unfold Den; exact ⟨p, vs, rfl, ⟨mcut_same, h1⟩, DenL.less Less.cut _ _ h2⟩) i
    rw [← he] at q
    have : σ.set i (some (.ref p)) = σ := by
      apply List.ext_getElem?
      intro j
      by_cases hj : i = j
      · subst hj
        rw [List.getElem?_set_self (List.getElem?_eq_some_iff.mp q1).1, q1]
      · rw [List.getElem?_set_ne hj]
    rw [this] at q
    exact q
  exact h σ H D m.cut e' (l.grow Grow.cut) (k.grow Grow.cut)
end
/-- what a loop walks, over data: ds, while S holds of the store -/
structure ItOk (K : PySem.W.Frag) (μ : Mu) (H : Hp) (J : It) (ds : List D) (S : Mu → Prop) : Prop where
  w : ∃ (G : Hp → Prop) (Y : Nat → Hp → V → Hp → Prop), Walk J ds.length G Y ∧ (∀ μ' H', Grow μ H μ' H' → Mem K μ' H' → S μ' → G H') ∧
    ∀ i μ' H' x H'' d, Grow μ H μ' H' → Mem K μ' H' → S μ' → Y i H' x H'' → ds[i]? = some d → Grow μ' H' μ' H'' ∧ Mem K μ' H'' ∧ Den K μ' H'' d x
def ItX (K : PySem.W.Frag) (W : WX) (X : XD) (μ : Mu) (ρ : Ro) (wi : TI) (Ψ : Mu → List D → (Mu → Prop) → Prop) : Prop := ∀ (σ : L2.St) (H : Hp) (R : It → Hp → Prop), Mem K μ H → EnvIs K μ H ρ σ → LiftX K μ H X W →
  (∀ μ1 ds S J H1, Ψ μ1 ds S → Grow μ H μ1 H1 → Mem K μ1 H1 → ItOk K μ1 H1 J ds S → R J H1) → wi σ H R
/-- a list to be read -/
def IsL (μ : Mu) (d : D) (ds : List D) (S : Mu → Prop) : Prop := ((d = .lst ds ∨ d = .frz ds) ∧ S = fun _ => True) ∨ ∃ a, d = .at a ∧ μ a = some (.lst ds) ∧ S = fun μ' => μ' a = some (.lst ds)

section
variable {K : PySem.W.Frag} {W : WX} {X : XD} {μ μ' : Mu} {H H' : Hp} {ρ : Ro} {E : ED} {ta tb te tx tl : TE} {tt tu : TT} {Φ : DP} {Ψ : Mu → List D → (Mu → Prop) → Prop} {g : TG} {t : TS} {wi : TI}
theorem gs_for (h : ItX K W X μ ρ wi fun μ1 ds S => ∃ Inv : Nat → Mu → Ro → Prop, Inv 0 μ1 ρ ∧ (∀ i μ' ρ', i ≤ ds.length → Inv i μ' ρ' → S μ') ∧
    (∀ i d μ' ρ', ds[i]? = some d → Inv i μ' ρ' → TgX K W X μ' ρ' g d fun μ'' ρ'' => GS K W X μ'' ρ'' t { E with nx := Inv (i + 1), ct := Inv (i + 1), bk := E.nx }) ∧ ∀ μ' ρ', Inv ds.length μ' ρ' → E.nx μ' ρ') :
    GS K W X μ ρ (tFor wi g t) E := fun σ H D m e l k => by
  refine h σ H _ m e l fun μ1 ds S J H1 ⟨Iv, h0, hS, hs, hd⟩ g1 m1 ok => ?_
  obtain ⟨G, Y, w, hG, hY⟩ := ok.w
  refine for_it w (fun i σ' H' => ∃ μ' ρ', Iv i μ' ρ' ∧ Grow μ1 H1 μ' H' ∧ Mem K μ' H' ∧ EnvIs K μ' H' ρ' σ') ⟨μ1, ρ, h0, Grow.refl _ _, m1, e.grow g1⟩ ?_ ?_ ?_
  · rintro i σ' H' hi ⟨μ', ρ', p, gr, mm, ee⟩
    exact hG μ' H' gr mm (hS i μ' ρ' hi p)
  · rintro i x σ' H' H'' hi ⟨μ', ρ', p, gr, mm, ee⟩ y
    obtain ⟨q1, q2, q3⟩ := hY i μ' H' x H'' ds[i] gr mm (hS i μ' ρ' (Nat.le_of_lt hi) p) y (by simp)
    have gg := (g1.trans gr).trans q1
    refine hs i ds[i] μ' ρ' (by simp) p σ' H'' x _ q2 (ee.grow q1) (l.grow gg) q3 fun μ2 ρ2 σ2 H2 p2 g2 m2 e2 => ?_
    refine p2 σ2 H2 _ m2 e2 (l.grow (gg.trans g2)) ⟨fun m r s h x gr' mm' ee' => ?_, fun m r s h x gr' mm' ee' => k.rt m r s h x ((gg.trans g2).trans gr') mm' ee', fun m r s h x gr' mm' ee' => k.nx m r s h x ((gg.trans g2).trans gr') mm' ee', fun m r s h x gr' mm' ee' => ?_⟩
    · exact ⟨m, r, x, ((gr.trans q1).trans g2).trans gr', mm', ee'⟩
    · exact ⟨m, r, x, ((gr.trans q1).trans g2).trans gr', mm', ee'⟩
  · rintro σ' H' ⟨μ', ρ', p, gr, mm, ee⟩
    exact k.nx μ' ρ' σ' H' (hd μ' ρ' p) (g1.trans gr) mm ee
theorem den_seq {d : D} {ds : List D} {S : Mu → Prop} {v : V} (hd : IsL μ d ds S) (m : Mem K μ H) (h : Den K μ H d v) : ∃ p vs, v = .ref p ∧ SqL K H p vs ∧ DenL K μ H ds vs := by
  rcases hd with ⟨e | e, _⟩ | ⟨a, e, ha, _⟩
  · subst e; unfold Den at h
    obtain ⟨p, vs, e1, s, b⟩ := h
    exact ⟨p, vs, e1, SqL.of s.2, b⟩
  · subst e; unfold Den at h
    obtain ⟨p, vs, e1, s, b⟩ := h
    exact ⟨p, vs, e1, s.sq, b⟩
  · subst e; unfold Den at h
    obtain ⟨vs, e1, b⟩ := m a _ ha
    exact ⟨a, vs, h, SqL.of e1, b⟩
theorem itx_list (h : EvX K W X μ ρ tl fun μ1 d => ∃ ds S, IsL μ1 d ds S ∧ Ψ μ1 ds S) : ItX K W X μ ρ (iList K tl) Ψ := fun σ H R m e l k =>
  h σ H _ m e l fun μ1 d v H1 ⟨ds, S, hd, hp⟩ g1 m1 d1 => by
    rcases hd with ⟨e1, hS⟩ | ⟨a, e1, ha, hS⟩
    · obtain ⟨p, vs, e2, s, b⟩ : ∃ p vs, v = .ref p ∧ StS K μ1 H1 p vs ∧ DenL K μ1 H1 ds vs := by
        rcases e1 with e1 | e1
        · subst e1; unfold Den at d1
          obtain ⟨p, vs, e2, s, b⟩ := d1
          exact ⟨p, vs, e2, .inl ⟨s.1, .inl s.2⟩, b⟩
        · subst e1; unfold Den at d1; exact d1
      refine ⟨p, e2, ⟨vs, s.sq⟩, k μ1 ds S _ H1 hp g1 m1 ⟨(fun H => SqL K H p vs), YAt vs, by rw [b.length]; exact walk_list, fun μ' H' gr mm _ => (gr.stS s).sq, ?_⟩⟩
      rintro i μ' H' x H'' d gr mm _ ⟨rfl, hx⟩ hd
      obtain ⟨v', q1, q2⟩ := (DenL.grow gr _ _ b).get hd
      rw [hx] at q1; cases q1
      exact ⟨Grow.refl _ _, mm, q2⟩
    · subst e1 hS
      unfold Den at d1
      obtain ⟨vs, e2, b⟩ := m1 a _ ha
      refine ⟨a, d1, ⟨vs, SqL.of e2⟩, k μ1 ds _ _ H1 hp g1 m1 ⟨(fun H => ∃ vs, H a = some (.lst vs) ∧ vs.length = ds.length), (fun i H x H' => H' = H ∧ ∀ vs, H a = some (.lst vs) → vs[i]? = some x), ?_, ?_, ?_⟩⟩
      · refine ⟨?_, ?_, ?_⟩
        · rintro i H hi ⟨vs, q, ln⟩
          exact ⟨vs, vs[i], SqL.of q, by simp⟩
        · rintro H ⟨vs, q, ln⟩
          exact ⟨vs, SqL.of q, by omega⟩
        · rintro i H x H' hi ⟨vs, q, ln⟩ ⟨rfl, y⟩
          exact ⟨rfl, fun vs' q' => y vs' (SqL.of q')⟩
      · intro μ' H' gr mm ha'
        obtain ⟨vs', q, b'⟩ := mm a _ ha'
        exact ⟨vs', q, b'.length.symm⟩
      · rintro i μ' H' x H'' d gr mm ha' ⟨rfl, y⟩ hd
        obtain ⟨vs', q, b'⟩ := mm a _ ha'
        obtain ⟨v', q1, q2⟩ := b'.get hd
        rw [y vs' q] at q1; cases q1
        exact ⟨Grow.refl _ _, mm, q2⟩
theorem itx_tup (h : EvX K W X μ ρ tl fun μ1 d => ∃ ds, d = .tup ds ∧ Ψ μ1 ds fun _ => True) : ItX K W X μ ρ (iTup K tl) Ψ := fun σ H R m e l k =>
  h σ H _ m e l fun μ1 d v H1 ⟨ds, hd, hp⟩ g1 m1 d1 => by
    subst hd; unfold Den at d1
    obtain ⟨p, vs, e2, s, b⟩ := d1
    refine ⟨p, e2, ⟨vs, s.sq⟩, k μ1 ds _ _ H1 hp g1 m1 ⟨(fun H => SqT K H p vs), YAt vs, by rw [b.length]; exact walk_tup, fun μ' H' gr mm _ => (gr.stT s).sq, ?_⟩⟩
    rintro i μ' H' x H'' d gr mm _ ⟨rfl, hx⟩ hd
    obtain ⟨v', q1, q2⟩ := (DenL.grow gr _ _ b).get hd
    rw [hx] at q1; cases q1
    exact ⟨Grow.refl _ _, mm, q2⟩
/-- the turns of a range -/
def rangeD (lo : Int) (n : Nat) : List D := (List.range n).map fun (i : Nat) => .int (lo + i)
theorem rangeD_len (lo : Int) (n : Nat) : (rangeD lo n).length = n := by unfold rangeD; simp
theorem rangeD_get {lo : Int} {n i : Nat} {d : D} (h : (rangeD lo n)[i]? = some d) : i < n ∧ d = .int (lo + i) := by
  unfold rangeD at h
  rw [List.getElem?_map] at h
  by_cases hi : i < n
  · rw [List.getElem?_range hi] at h
    exact ⟨hi, by simpa using h.symm⟩
  · rw [List.getElem?_eq_none (by simpa using hi)] at h
    cases h
theorem itok_range {lo : Int} {n : Nat} : ItOk K μ H (Itr lo n) (rangeD lo n) fun _ => True :=
  ⟨(fun _ => True), YFn fun i => .int (lo + i), by rw [rangeD_len]; exact walk_range, fun _ _ _ _ _ => True.intro, fun i μ' H' x H'' d gr mm _ y hd => by
    obtain ⟨rfl, rfl⟩ := y
    obtain ⟨_, rfl⟩ := rangeD_get hd
    exact ⟨Grow.refl _ _, mm, by unfold Den; rfl⟩⟩
theorem itx_range1 {tr : TA} (h : EvL K W X μ ρ tr fun μ1 ds => ∃ n : Int, ds = [.int n] ∧ (-(2 ^ 62) ≤ n ∧ n < 2 ^ 62) ∧ Ψ μ1 (rangeD 0 n.toNat) fun _ => True) : ItX K W X μ ρ (iRng1 tr) Ψ := fun σ H R m e l k =>
  h σ H _ m e l fun μ1 ds vs H1 ⟨n, hd, hb, hp⟩ g1 m1 d1 => by
    subst hd
    unfold DenL at d1
    obtain ⟨w, ws, e2, a, b⟩ := d1
    unfold Den at a
    unfold DenL at b
    subst e2 a b
    exact ⟨n, rfl, hb.1, hb.2, k μ1 _ _ _ H1 hp g1 m1 itok_range⟩
theorem itx_range2 {tr : TA} (h : EvL K W X μ ρ tr fun μ1 ds => ∃ i n : Int, ds = [.int i, .int n] ∧ (-(2 ^ 62) ≤ i ∧ i < 2 ^ 62 ∧ -(2 ^ 62) ≤ n ∧ n < 2 ^ 62) ∧ Ψ μ1 (rangeD i (n - i).toNat) fun _ => True) : ItX K W X μ ρ (iRng2 tr) Ψ := fun σ H R m e l k =>
  h σ H _ m e l fun μ1 ds vs H1 ⟨i, n, hd, hb, hp⟩ g1 m1 d1 => by
    subst hd
    unfold DenL at d1
    obtain ⟨w, ws, e2, a, b⟩ := d1
    unfold Den at a
    unfold DenL at b
    obtain ⟨w', ws', e3, a', b'⟩ := b
    unfold Den at a'
    unfold DenL at b'
    subst e3 a' b' e2 a
    exact ⟨i, n, rfl, hb, k μ1 _ _ _ H1 hp g1 m1 itok_range⟩
/-- the signs of a text -/
def signsD (z : Str) : List D := z.cps.toList.map fun c => .str ⟨#[c]⟩
theorem itx_str (h : EvX K W X μ ρ te fun μ1 d => ∃ z, d = .str z ∧ Ψ μ1 (signsD z) fun _ => True) : ItX K W X μ ρ (iStr te) Ψ := fun σ H R m e l k =>
  h σ H _ m e l fun μ1 d v H1 ⟨z, hd, hp⟩ g1 m1 d1 => by
    subst hd; unfold Den at d1
    refine ⟨z, d1, k μ1 _ _ _ H1 hp g1 m1 ⟨_, _, by unfold signsD; rw [List.length_map, Array.length_toList]; exact walk_str, fun _ _ _ _ _ => True.intro, ?_⟩⟩
    rintro i μ' H' x H'' d gr mm _ ⟨rfl, c, hc, rfl⟩ hd
    refine ⟨Grow.refl _ _, mm, ?_⟩
    unfold signsD at hd
    rw [List.getElem?_map, Array.getElem?_toList, hc] at hd
    cases hd
    unfold Den
    rfl
/-- pairs -/
def pairsD (xs ys : List D) : List D := (xs.zip ys).map fun p => .tup [p.1, p.2]
theorem den_pair {x y : D} {v w : V} {T : Addr} (m : Mem K μ H) (hT : H T = none) (a : Den K μ H x v) (b : Den K μ H y w) : Den K μ (upd H T (.tup [v, w])) (.tup [x, y]) (.ref T) := by
  unfold Den
  exact ⟨T, [v, w], rfl, .inl ⟨m.free hT, .inl upd_same⟩, DenL.cons (Den.grow (Grow.new hT) _ _ a) (DenL.cons (Den.grow (Grow.new hT) _ _ b) DenL.nil)⟩
/-- the i-th and the i-th: a new pair -/
theorem itok_pair {J : It} {n : Nat} {ds : List D} {S : Mu → Prop} {xs ys : Hp → Nat → Option V} {G : Hp → Prop} {Y : Nat → Hp → V → Hp → Prop} (w : Walk J ds.length G Y) (hG : ∀ μ' H', Grow μ H μ' H' → Mem K μ' H' → S μ' → G H')
    (hY : ∀ i μ' H' v H'' d, Grow μ H μ' H' → Mem K μ' H' → S μ' → Y i H' v H'' → ds[i]? = some d → ∃ T x y v1 v2, v = .ref T ∧ H' T = none ∧ H'' = upd H' T (.tup [v1, v2]) ∧ d = .tup [x, y] ∧ Den K μ' H' x v1 ∧ Den K μ' H' y v2) : ItOk K μ H J ds S :=
  ⟨G, Y, w, hG, fun i μ' H' v H'' d gr mm s y hd => by
    obtain ⟨T, x, y', v1, v2, rfl, hT, rfl, rfl, a, b⟩ := hY i μ' H' v H'' d gr mm s y hd
    exact ⟨Grow.new hT, mm.new hT, den_pair mm hT a b⟩⟩
theorem pairsD_get {xs ys : List D} {i : Nat} {d : D} (h : (pairsD xs ys)[i]? = some d) : ∃ x y, xs[i]? = some x ∧ ys[i]? = some y ∧ d = .tup [x, y] := by
  unfold pairsD at h
  rw [List.getElem?_map] at h
  cases e : (xs.zip ys)[i]? with
  | none => rw [e] at h; cases h
  | some p =>
    rw [e] at h
    cases h
    rw [List.getElem?_zip_eq_some] at e
    exact ⟨p.1, p.2, e.1, e.2, rfl⟩
theorem pairsD_len (xs ys : List D) : (pairsD xs ys).length = min xs.length ys.length := by unfold pairsD; simp
/-- zip of two lists, two tuples -/
theorem itx_zip {tr : TA} (h : EvL K W X μ ρ tr fun μ1 ds => ∃ a b xs ys, ds = [a, b] ∧ ((∃ S S', IsL μ1 a xs S ∧ IsL μ1 b ys S' ∧ (∀ m, S m) ∧ (∀ m, S' m)) ∨ (a = .tup xs ∧ b = .tup ys)) ∧ Ψ μ1 (pairsD xs ys) fun _ => True) : ItX K W X μ ρ (iZipA K tr) Ψ := fun σ H R m e l k =>
  h σ H _ m e l fun μ1 ds vs H1 ⟨a, b, xs, ys, hd, hab, hp⟩ g1 m1 d1 => by
    subst hd
    unfold DenL at d1
    obtain ⟨v1, ws, e2, da, b'⟩ := d1
    unfold DenL at b'
    obtain ⟨v2, ws', e3, db, b''⟩ := b'
    unfold DenL at b''
    subst b'' e3 e2
    rcases hab with ⟨S, S', ha, hb, s1, s2⟩ | ⟨rfl, rfl⟩
    · have key : ∀ {d : D} {v : V} {zs : List D} {S : Mu → Prop}, IsL μ1 d zs S → (∀ m, S m) → Den K μ1 H1 d v → ∃ p vs, v = .ref p ∧ StS K μ1 H1 p vs ∧ DenL K μ1 H1 zs vs := by
        intro d v zs S hd hs dv
        rcases hd with ⟨e1 | e1, _⟩ | ⟨a, _, _, hS⟩
        · subst e1; unfold Den at dv
          obtain ⟨p, vs, e2, s, b⟩ := dv
          exact ⟨p, vs, e2, .inl ⟨s.1, .inl s.2⟩, b⟩
        · subst e1; unfold Den at dv; exact dv
        · subst hS
          have := hs (fun _ => none)
          cases this
      obtain ⟨p, us, e1, sp, bp⟩ := key ha s1 da
      obtain ⟨q, ws, e2, sq, bq⟩ := key hb s2 db
      subst e1 e2
      refine ⟨p, q, us, ws, rfl, .inl ⟨sp.sq, sq.sq, k μ1 _ _ _ H1 hp g1 m1 (itok_pair (n := 0) (xs := fun _ _ => none) (ys := fun _ _ => none) (walk_zip (xs := us) (ys := ws) (by rw [pairsD_len, bp.length, bq.length])) (fun μ' H' gr mm _ => ⟨(gr.stS sp).sq, (gr.stS sq).sq⟩) ?_)⟩⟩
      rintro i μ' H' v H'' d gr mm _ ⟨T, x, y, rfl, hT, rfl, hx, hy⟩ hd
      obtain ⟨dx, dy, ex, ey, rfl⟩ := pairsD_get hd
      obtain ⟨u1, q1, r1⟩ := (DenL.grow gr _ _ bp).get ex
      obtain ⟨u2, q2, r2⟩ := (DenL.grow gr _ _ bq).get ey
      have hx' : us[i]? = some x := hx
      have hy' : ws[i]? = some y := hy
      rw [hx'] at q1; cases q1
      rw [hy'] at q2; cases q2
      exact ⟨T, dx, dy, x, y, rfl, hT, rfl, rfl, r1, r2⟩
    · unfold Den at da db
      obtain ⟨p, us, e1, sp, bp⟩ := da
      obtain ⟨q, ws, e2, sq, bq⟩ := db
      subst e1 e2
      refine ⟨p, q, us, ws, rfl, .inr ⟨sp.sq, sq.sq, k μ1 _ _ _ H1 hp g1 m1 (itok_pair (n := 0) (xs := fun _ _ => none) (ys := fun _ _ => none) (G := fun H => SqT K H p us ∧ SqT K H q ws) (Y := YPair (fun i => us[i]?) (fun i => ws[i]?)) ?_ (fun μ' H' gr mm _ => ⟨(gr.stT sp).sq, (gr.stT sq).sq⟩) ?_)⟩⟩
      · refine ⟨?_, ?_, ?_⟩
        · rintro i H hi ⟨h1, h2⟩
          rw [pairsD_len, bp.length, bq.length] at hi
          exact ⟨us, ws, us[i], ws[i], h1, h2, by simp, by simp⟩
        · rintro H ⟨h1, h2⟩
          refine ⟨us, ws, h1, h2, ?_⟩
          rw [pairsD_len, bp.length, bq.length]
          omega
        · rintro i H x H' hi ⟨h1, h2⟩ y
          obtain ⟨T, a, b, h3, h4, h5, h6⟩ := y
          exact ⟨T, a, b, h3, h4, h5, h6.1 us h1, h6.2 ws h2⟩
      · rintro i μ' H' v H'' d gr mm _ ⟨T, x, y, rfl, hT, rfl, hx, hy⟩ hd
        obtain ⟨dx, dy, ex, ey, rfl⟩ := pairsD_get hd
        obtain ⟨u1, q1, r1⟩ := (DenL.grow gr _ _ bp).get ex
        obtain ⟨u2, q2, r2⟩ := (DenL.grow gr _ _ bq).get ey
        have hx' : us[i]? = some x := hx
        have hy' : ws[i]? = some y := hy
        rw [hx'] at q1; cases q1
        rw [hy'] at q2; cases q2
        exact ⟨T, dx, dy, x, y, rfl, hT, rfl, rfl, r1, r2⟩
/-! ### comprehensions -/
theorem wipe_env {vs : List Nat} {σ : L2.St} (e : EnvIs K μ H ρ σ) : EnvIs K μ H (vs.foldr (fun v r => r.set v none) ρ) (wipe σ vs) := by
  induction vs with
  | nil => exact e
  | cons v vs ih => exact ih.unset v
theorem wipe_get (σ : L2.St) : ∀ (vs : List Nat) (i : Nat), (wipe σ vs)[i]? = if i ∈ vs then (σ[i]?).map (fun _ => none) else σ[i]?
  | [], i => by rw [if_neg (by simp)]; rfl
  | v :: vs, i => by
    show ((wipe σ vs).set v none)[i]? = _
    by_cases h : v = i
    · subst h
      rw [if_pos (by simp)]
      by_cases hl : v < σ.length
      · rw [List.getElem?_set_self (by rw [wipe_length]; exact hl), List.getElem?_eq_getElem hl]; rfl
      · rw [List.getElem?_eq_none (by rw [List.length_set, wipe_length]; omega), List.getElem?_eq_none (by omega)]; rfl
    · rw [List.getElem?_set_ne h, wipe_get σ vs i]
      have : (i ∈ v :: vs) ↔ i ∈ vs := by
        rw [List.mem_cons]
        exact ⟨fun q => q.resolve_left (fun z => h z.symm), .inr⟩
      by_cases hm : i ∈ vs
      · rw [if_pos hm, if_pos (this.mpr hm)]
      · rw [if_neg hm, if_neg (fun z => hm (this.mp z))]
theorem wipe_set {σ : L2.St} {vs : List Nat} {j : Nat} {x : Option V} (h : j ∈ vs) : wipe (σ.set j x) vs = wipe σ vs := by
  apply List.ext_getElem?
  intro i
  rw [wipe_get, wipe_get]
  by_cases hi : i ∈ vs
  · rw [if_pos hi, if_pos hi]
    by_cases e : j = i
    · subst e
      by_cases hl : j < σ.length
      · rw [List.getElem?_set_self hl, List.getElem?_eq_getElem hl]; rfl
      · rw [List.getElem?_eq_none (by rw [List.length_set]; omega), List.getElem?_eq_none (by omega)]
    · rw [List.getElem?_set_ne e]
  · rw [if_neg hi, if_neg hi, List.getElem?_set_ne (fun z => hi (by rw [← z]; exact h))]
theorem wipe_wipe {σ : L2.St} {vs : List Nat} : wipe (wipe σ vs) vs = wipe σ vs := by
  apply List.ext_getElem?
  intro i
  rw [wipe_get, wipe_get]
  by_cases hi : i ∈ vs
  · rw [if_pos hi, if_pos hi]
    cases σ[i]? <;> rfl
  · rw [if_neg hi, if_neg hi]
/-- the slots ahead of a comprehension's turn -/
abbrev wipeD (ρ : Ro) (vs : List Nat) : Ro := vs.foldr (fun v r => r.set v none) ρ
/-- a comprehension's target: its names are among vs -/
def TcX (K : PySem.W.Frag) (W : WX) (X : XD) (vs : List Nat) (μ : Mu) (ρ : Ro) (g : TG) (d : D) (Φ : Mu → Ro → Prop) : Prop := ∀ (σ : L2.St) (H : Hp) (v : V) (Q : L2.St → Hp → Prop), Mem K μ H → EnvIs K μ H ρ σ → Den K μ H d v →
  (∀ ρ' σ', Φ μ ρ' → EnvIs K μ H ρ' σ' → wipe σ' vs = wipe σ vs → Q σ' H) → g v σ H Q
theorem tcx_name {vs : List Nat} {j : Nat} {d : D} {Φ : Mu → Ro → Prop} (hj : j ∈ vs) (h : Φ μ (ρ.set j (some d))) : TcX K W X vs μ ρ (gName j) d Φ := fun σ H v Q m e dd k => k _ _ h (e.set dd j) (wipe_set hj)
theorem tcx_tup2 {vs : List Nat} {i j : Nat} {d d' : D} {Φ : Mu → Ro → Prop} (hi : i ∈ vs) (hj : j ∈ vs) (h : Φ μ ((ρ.set i (some d)).set j (some d'))) : TcX K W X vs μ ρ (gTup K 2 (gCons (gName i) (gCons (gName j) gNil))) (.tup [d, d']) Φ := fun σ H v Q m e dd k => by
  unfold Den at dd
  obtain ⟨p, us, e1, s, b⟩ := dd
  unfold DenL at b
  obtain ⟨w, ws, e2, a, b⟩ := b
  unfold DenL at b
  obtain ⟨w', ws', e3, a', b'⟩ := b
  unfold DenL at b'
  subst b' e3 e2
  exact ⟨p, _, e1, s.sq, rfl, w, _, rfl, w', _, rfl, rfl, k _ _ h ((e.set a i).set a' j) (by rw [wipe_set hj, wipe_set hi])⟩
theorem tcx_tup4 {vs : List Nat} {i1 i2 i3 i4 : Nat} {d1 d2 d3 d4 : D} {Φ : Mu → Ro → Prop} (h1 : i1 ∈ vs) (h2 : i2 ∈ vs) (h3 : i3 ∈ vs) (h4 : i4 ∈ vs) (h : Φ μ ((((ρ.set i1 (some d1)).set i2 (some d2)).set i3 (some d3)).set i4 (some d4))) :
    TcX K W X vs μ ρ (gTup K 4 (gCons (gName i1) (gCons (gName i2) (gCons (gName i3) (gCons (gName i4) gNil))))) (.tup [d1, d2, d3, d4]) Φ := fun σ H v Q m e dd k => by
  unfold Den at dd
  obtain ⟨p, us, e1, s, b⟩ := dd
  unfold DenL at b
  obtain ⟨w1, ws1, q1, a1, b⟩ := b
  unfold DenL at b
  obtain ⟨w2, ws2, q2, a2, b⟩ := b
  unfold DenL at b
  obtain ⟨w3, ws3, q3, a3, b⟩ := b
  unfold DenL at b
  obtain ⟨w4, ws4, q4, a4, b⟩ := b
  unfold DenL at b
  subst b q4 q3 q2 q1
  exact ⟨p, _, e1, s.sq, rfl, _, _, rfl, _, _, rfl, _, _, rfl, _, _, rfl, rfl, k _ _ h ((((e.set a1 i1).set a2 i2).set a3 i3).set a4 i4) (by rw [wipe_set h4, wipe_set h3, wipe_set h2, wipe_set h1])⟩
/-- a comprehension: Iv by the turn, the store (the new list in it) and the list so far; at the end it may change no more, or it may -/
theorem evx_lc {vs : List Nat} (h : ItX K W X μ ρ wi fun μ1 ds S => ∀ Dl, μ1 Dl = none → ∃ Iv : Nat → Mu → List D → Prop, Iv 0 (mput μ1 Dl (.lst [])) [] ∧
    (∀ i μ' acc, i ≤ ds.length → μ' Dl = some (.lst acc) → Iv i μ' acc → acc.length ≤ 1000000 ∧ S μ') ∧
    (∀ i d μ' acc, ds[i]? = some d → μ' Dl = some (.lst acc) → Iv i μ' acc → TcX K W X vs μ' (wipeD ρ vs) g d fun μ2 ρ2 =>
      EvB K W X μ2 ρ2 tt fun μ3 b => μ3 Dl = some (.lst acc) ∧ if b = true then EvX K W X μ3 ρ2 te fun μ4 y => μ4 Dl = some (.lst acc) ∧ Iv (i + 1) (mput μ4 Dl (.lst (acc ++ [y]))) (acc ++ [y]) else Iv (i + 1) μ3 acc) ∧
    (∀ μ' acc, μ' Dl = some (.lst acc) → Iv ds.length μ' acc → Φ (mcut μ' Dl) (.lst acc) ∨ Φ μ' (.at Dl))) : EvX K W X μ ρ (tLc wi g tt te vs) Φ := fun σ H Q m e l k => by
  refine h σ H _ m e l fun μ1 ds S J H1 hp g1 m1 ok Dl hD => ?_
  obtain ⟨Iv, h0, hS, hs, hd⟩ := hp Dl (m1.free hD)
  obtain ⟨G, Y, w, hG, hY⟩ := ok.w
  have gn : Grow μ1 H1 (mput μ1 Dl (.lst [])) (upd H1 Dl (.lst [])) := Grow.newM hD
  have e1 := wipe_env (vs := vs) (e.grow g1)
  refine lc_it w (fun i H' => ∃ μ' acc, Iv i μ' acc ∧ μ' Dl = some (.lst acc) ∧ Grow μ1 H1 μ' H' ∧ Mem K μ' H') ⟨_, [], h0, mput_same, gn, m1.newM hD ⟨[], upd_same, DenL.nil⟩⟩ ?_ ?_ ?_
  · rintro i H' hi ⟨μ', acc, p, hl, gr, mm⟩
    exact hG μ' H' gr mm (hS i μ' acc hi hl p).2
  · rintro i x H' H'' hi ⟨μ', acc, p, hl, gr, mm⟩ y
    have hz := hS i μ' acc (Nat.le_of_lt hi) hl p
    obtain ⟨q1, q2, q3⟩ := hY i μ' H' x H'' ds[i] gr mm hz.2 y (by simp)
    have gg := gr.trans q1
    refine hs i ds[i] μ' acc (by simp) hl p (wipe σ vs) H'' x _ q2 (e1.grow gg) q3 fun ρ2 σ2 p2 e2 hw => ⟨by rw [hw, wipe_wipe], ?_⟩
    refine p2 σ2 H'' _ q2 e2 (l.grow (g1.trans gg)) fun μ3 b H3 ⟨hl3, p3⟩ g3 m3 => ?_
    cases b with
    | false =>
      rw [if_neg (by decide)] at p3 ⊢
      exact ⟨μ3, acc, p3, hl3, gg.trans g3, m3⟩
    | true =>
      rw [if_pos rfl] at p3 ⊢
      refine p3 σ2 H3 _ m3 (e2.grow g3) (l.grow ((g1.trans gg).trans g3)) fun μ4 d v H4 ⟨hl4, p4⟩ g4 m4 d4 => ?_
      obtain ⟨us, hu, hb⟩ := m4 Dl _ hl4
      refine ⟨us, hu, by rw [← hb.length]; exact Nat.lt_of_le_of_lt hz.1 (by decide), _, _, p4, mput_same, ((gg.trans g3).trans g4).trans (Grow.wr hl4), m4.wr hl4 ⟨_, upd_same, (DenL.grow (Grow.wr hl4) _ _ hb).append (DenL.cons (Den.grow (Grow.wr hl4) _ _ d4) DenL.nil)⟩⟩
  · rintro H' ⟨μ', acc, p, hl, gr, mm⟩
    rcases hd μ' acc hl p with q | q
    · obtain ⟨us, hu, hb⟩ := mm Dl _ hl
      exact k _ _ _ H' q ((g1.trans gr).trans Grow.cut) mm.cut (by unfold Den; exact ⟨Dl, us, rfl, ⟨mcut_same, hu⟩, DenL.less Less.cut _ _ hb⟩)
    · exact k _ _ _ H' q (g1.trans gr) mm (by unfold Den; rfl)
theorem evb_yes {Ψ : Mu → Bool → Prop} (h : Ψ μ true) : EvB K W X μ ρ tYes Ψ := fun σ H Q m e l k => k μ true H h (Grow.refl _ _) m
/-- a comprehension whose turns change nothing: from f and p of the items -/
theorem evx_lcP {vs : List Nat} (h : ItX K W X μ ρ wi fun μ1 ds S => (ds.length ≤ 1000000 ∧ ∀ m : Mu, (∀ b o, μ1 b = some o → m b = some o) → S m) ∧ ∃ (p : D → Bool) (f : D → D),
    (∀ d, d ∈ ds → ∀ μ' : Mu, (∀ b o, μ1 b = some o → μ' b = some o) → TcX K W X vs μ' (wipeD ρ vs) g d fun μ2 ρ2 => EvB K W X μ2 ρ2 tt fun μ3 b => μ3 = μ2 ∧ b = p d ∧ (p d = true → EvX K W X μ3 ρ2 te fun μ4 y => μ4 = μ3 ∧ y = f d)) ∧
    Φ μ1 (.lst ((ds.filter p).map f))) : EvX K W X μ ρ (tLc wi g tt te vs) Φ := by
  refine evx_lc fun σ H R m e l k => h σ H R m e l fun μ1 ds S J H1 ⟨⟨hl, hS⟩, p, f, hp, hq⟩ g1 m1 ok => k μ1 ds S J H1 (fun Dl hD => ?_) g1 m1 ok
  have up : ∀ μ' : Mu, (∀ b, b ≠ Dl → μ' b = μ1 b) → ∀ b o, μ1 b = some o → μ' b = some o := fun μ' hμ b o e => by
    rw [hμ b (fun z => by rw [z, hD] at e; cases e)]; exact e
  refine ⟨fun i μ' acc => acc = ((ds.take i).filter p).map f ∧ ∀ b, b ≠ Dl → μ' b = μ1 b, ⟨by simp, fun b hb => mput_ne hb⟩, ?_, ?_, ?_⟩
  · rintro i μ' acc hi _ ⟨rfl, hμ⟩
    refine ⟨?_, hS _ (up μ' hμ)⟩
    rw [List.length_map]
    refine Nat.le_trans (List.length_filter_le _ _) ?_
    rw [List.length_take]
    omega
  · rintro i d μ' acc hi hD' ⟨rfl, hμ⟩
    have hm : d ∈ ds := List.mem_of_getElem? hi
    have e1 : ds.take (i + 1) = ds.take i ++ [d] := by
      rw [List.take_succ, hi]; rfl
    intro σ H v Q m e dd k
    refine hp d hm μ' (up μ' hμ) σ H v Q m e dd fun ρ2 σ2 q2 e2 hw => k ρ2 σ2 ?_ e2 hw
    refine q2.imp fun μ3 b ⟨r1, r2, r3⟩ => ?_
    subst r1 r2
    refine ⟨hD', ?_⟩
    cases hpd : p d with
    | false =>
      rw [if_neg (by decide)]
      refine ⟨?_, hμ⟩
      rw [e1, List.filter_append, List.filter_cons, hpd]
      simp
    | true =>
      rw [if_pos rfl]
      refine (r3 hpd).imp fun μ4 y ⟨s1, s2⟩ => ?_
      subst s1 s2
      refine ⟨hD', ?_, fun b hb => by rw [mput_ne hb]; exact hμ b hb⟩
      rw [e1, List.filter_append, List.filter_cons, hpd]
      simp
  · rintro μ' acc hD' ⟨rfl, hμ⟩
    left
    have : mcut μ' Dl = μ1 := by
      funext b
      by_cases hb : b = Dl
      · subst hb; rw [mcut_same, hD]
      · rw [mcut_ne hb, hμ b hb]
    rw [this, List.take_length]
    exact hq
end
/-! ### promises over data -/
abbrev PD := Mu → List D → DP → (Mu → Addr → D → Prop) → Prop
/-- the promise P of a def with n parameters -/
def spD (K : PySem.W.Frag) (n : Nat) (P : PD) : Sp := fun vs H Q E => ∃ (μ : Mu) (ds : List D) (post : DP) (exc : Mu → Addr → D → Prop), Mem K μ H ∧ DenL K μ H ds vs ∧ ds.length = n ∧ P μ ds post exc ∧
  (∀ μ' d v H', post μ' d → Grow μ H μ' H' → Mem K μ' H' → Den K μ' H' d v → Q v H') ∧
  (∀ μ' C d dx v H', exc μ' C d → Grow μ H μ' H' → Mem K μ' H' → μ' dx = none → H' dx = some (.xd [(("value" : Str), v)]) → Den K μ' H' d v → E (.ref C) (some dx) H')
abbrev WN : WX := fun _ _ _ _ => False
abbrev XN : XD := fun _ _ _ _ => False
abbrev excN : Mu → Addr → D → Prop := fun _ _ _ => False
def startD (N : List Str) (ds : List D) : Ro := ds.map some ++ List.replicate (N.length - ds.length) none
/-- a function of plain data: it changes nothing -/
def pureP (f : List D → Option D) : PD := fun μ ds post _ => ∃ d, f ds = some d ∧ post μ d

section
variable {K : PySem.W.Frag} {W : WX} {X : XD} {μ μ' : Mu} {H H' : Hp} {ρ : Ro} {E : ED} {ta tb te tx tl : TE} {tt tu : TT} {Φ : DP} {g : TG} {t : TS} {wi : TI} {n : Nat} {P : PD} {tr tk : TA}
theorem evx_call (h : EvL K W X μ ρ tr fun μ1 ds => ds.length = n ∧ P μ1 ds Φ excN) : EvX K W X μ ρ (tCall (spD K n P) [] E0 tr) Φ := fun σ H Q m e l k =>
  h σ H _ m e l fun μ1 ds vs H1 ⟨hl, hp⟩ g1 m1 d1 => ⟨μ1, ds, Φ, excN, m1, by rw [List.append_nil]; exact d1, hl, hp, fun μ' d v H' p g => k μ' d v H' p (g1.trans g), fun _ _ _ _ _ _ z => z.elim⟩
theorem evx_callS (h : EvL K W X μ ρ tr fun μ1 ds => ds.length = n ∧ P μ1 ds Φ fun μ' C d => X μ' ρ C d) : EvX K W X μ ρ (tCallS (spD K n P) (WE W) tr) Φ := fun σ H Q m e l k =>
  h σ H _ m e l fun μ1 ds vs H1 ⟨hl, hp⟩ g1 m1 d1 => ⟨μ1, ds, Φ, _, m1, d1, hl, hp, fun μ' d v H' p g => k μ' d v H' p (g1.trans g), fun μ' C d dx v H' p g mm => l μ' ρ C d dx v σ H' p (g1.trans g) mm ((e.grow g1).grow g)⟩
/-- a call with keywords: gD puts the data in the parameters' order -/
theorem evx_callK {gV : List V → List V → List V} (gD : List D → List D → List D) (hg : ∀ μ H ds es vs ws, DenL K μ H ds vs → DenL K μ H es ws → DenL K μ H (gD ds es) (gV vs ws))
    (h : EvL K W X μ ρ tr fun μ1 ds => EvL K W X μ1 ρ tk fun μ2 es => (gD ds es).length = n ∧ P μ2 (gD ds es) Φ excN) : EvX K W X μ ρ (tCallK (spD K n P) gV E0 tr tk) Φ := fun σ H Q m e l k =>
  h σ H _ m e l fun μ1 ds vs H1 h1 g1 m1 d1 => h1 σ H1 _ m1 (e.grow g1) (l.grow g1) fun μ2 es ws H2 ⟨hl, hp⟩ g2 m2 d2 =>
    ⟨μ2, _, Φ, excN, m2, hg _ _ _ _ _ _ (DenL.grow g2 _ _ d1) d2, hl, hp, fun μ' d v H' p g => k μ' d v H' p ((g1.trans g2).trans g), fun _ _ _ _ _ _ z => z.elim⟩
/-- raise C(e) -/
abbrev tRaiseO (C : Addr) (W : WX) (sp : Sp) (tr : TA) : TS := fun _ σ H => tMkO C sp [] tr σ H fun cls d H' => W cls d σ H'
/-- the promise of WorthError's __init__ -/
def spInit (K : PySem.W.Frag) (f : Str) : Sp := fun vs H Q _ => ∃ (a C : Addr) (v : V), vs = [.ref a, v] ∧ OexC K C ∧ PySem.W.findIn K (.ref C) f = some none ∧ H a = some (exo a C none) ∧
  ∀ dx, H dx = none → dx ≠ a → Q .non (upd (upd H dx (exd dx [(f, v)])) a (exo a C (some dx)))
theorem gs_raise {C : Addr} (hC : OexC K C) (hv : PySem.W.findIn K (.ref C) "value" = some none) (h : EvL K W X μ ρ tr fun μ1 ds => ∃ d, ds = [d] ∧ X μ1 ρ C d) : GS K W X μ ρ (tRaiseO C W (spInit K "value") tr) E := fun σ H D m e l k => by
  refine h σ H _ m e l fun μ1 ds vs H1 ⟨d, hd, hx⟩ g1 m1 d1 => ?_
  subst hd
  unfold DenL at d1
  obtain ⟨w, ws, e1, a, b⟩ := d1
  unfold DenL at b
  subst b e1
  refine ⟨Nat.le_of_ble_eq_true rfl, fun p hp => ⟨p, C, w, rfl, hC, hv, upd_same, fun dx hdx hne => ⟨rfl, dx, [(("value" : Str), w)], upd_same, ?_, ?_, ?_⟩⟩⟩
  · rw [upd_ne hne, upd_same]
  · rw [upd_ne hne] at hdx; exact hdx
  · have hdx' : H1 dx = none := by rw [upd_ne hne] at hdx; exact hdx
    have eq : upd (L2.del (upd (upd (upd H1 p (exo p C none)) dx (exd dx [(("value" : Str), w)])) p (exo p C (some dx))) p) dx (.xd [(("value" : Str), w)]) = upd H1 dx (.xd [(("value" : Str), w)]) := by
      funext b
      by_cases h1 : b = dx
      · rw [h1, upd_same, upd_same]
      · rw [upd_ne h1, upd_ne h1]
        by_cases h2 : b = p
        · rw [h2, del_same, hp]
        · rw [del_ne h2, upd_ne h2, upd_ne h1, upd_ne h2]
    rw [eq]
    exact l μ1 ρ C d dx w σ _ hx (g1.trans (Grow.new hdx')) (m1.new hdx') ((e.grow g1).grow (Grow.new hdx')) (m1.free hdx') upd_same (Den.grow (Grow.new hdx') _ _ a)
theorem envIs_start {N : List Str} : ∀ {ds : List D} {vs : List V}, DenL K μ H ds vs → EnvIs K μ H (startD N ds) (L2.start N vs) := fun {ds vs} h => by
  have hl := h.length
  refine ⟨?_, fun i d e => ?_⟩
  · unfold L2.start startD
    simp only [List.length_append, List.length_map, List.length_replicate]
    omega
  · unfold startD at e
    unfold L2.start
    by_cases hi : i < ds.length
    · rw [List.getElem?_append_left (by rw [List.length_map]; exact hi), List.getElem?_map] at e
      rw [List.getElem?_append_left (by rw [List.length_map]; omega), List.getElem?_map]
      cases q : ds[i]? with
      | none => rw [q] at e; cases e
      | some x =>
        rw [q] at e
        cases e
        obtain ⟨v, h1, h2⟩ := h.get q
        exact ⟨v, by rw [h1]; rfl, h2⟩
    · rw [List.getElem?_append_right (by rw [List.length_map]; omega)] at e
      by_cases hj : i - (ds.map some).length < N.length - ds.length
      · rw [List.getElem?_replicate, if_pos hj] at e
        cases e
      · rw [List.getElem?_replicate, if_neg hj] at e
        cases e
end
section
variable {P : Program} {w : World} {K : PySem.W.Frag} {mg : Str → Option Value} {base : Heap}
/-- a def keeps its promise; no exception leaves it -/
theorem def_ok {x qual : Str} {st : Stmt} {f : Addr} {fd : FuncData} {N ps : List Str} {k : Nat} {Pd : PD} (F : Fun K x qual st f fd) (S : FnScope N ps (defScope st))
    (hb : ∀ (cdv : Value) (A : Around) (outer : List Env) (s : Shared) (H : Hp) (E : XK), Room k (A.deeper (envOfC qual (defScope st) s.heap.objs.size f cdv)) →
      ∃ t, PSs (cxOf CX0 P w K mg base N qual (defScope st) f cdv A outer s H E).nox (defBody st) t ∧ ∀ μ ds post exc, ds.length = ps.length → Pd μ ds post exc → GS K WN XN μ (startD N ds) t { nx := fun m _ => post m .non, rt := post }) :
    FnOk P w K mg base CX0 (k + 1) f fd ps (spD K ps.length Pd) := by
  refine F.ok S (fun vs H Q E h => ?_) fun cdv A outer s H vs Q E hr h => ?_
  · obtain ⟨μ, ds, post, exc, _, d, hl, _⟩ := h
    rw [← d.length, hl]
  · obtain ⟨μ, ds, post, exc, m, d, hl, hp, h1, h2⟩ := h
    obtain ⟨t, ht, hg⟩ := hb cdv A outer s H E hr
    refine ⟨t, ht, hg μ ds post exc hl hp (L2.start N vs) H _ m (envIs_start d) (fun _ _ _ _ _ _ _ _ z => z.elim) ⟨?_, ?_, fun _ _ _ _ z => z.elim, fun _ _ _ _ z => z.elim⟩⟩
    · intro μ' ρ' σ' H' p gr mm ee
      exact h1 μ' .non .non H' p gr mm (by unfold Den; rfl)
    · intro μ' d v H' p gr mm dd
      exact h1 μ' d v H' p gr mm dd
/-- a def that may raise keeps its promise -/
theorem def_okX {x qual : Str} {st : Stmt} {f : Addr} {fd : FuncData} {N ps : List Str} {k : Nat} {Pd : PD} (F : Fun K x qual st f fd) (S : FnScope N ps (defScope st))
    (hb : ∀ (cdv : Value) (A : Around) (outer : List Env) (s : Shared) (H : Hp) (E : XK), Room k (A.deeper (envOfC qual (defScope st) s.heap.objs.size f cdv)) →
      ∃ t, PSs (cxOf (L2.CX P w) P w K mg base N qual (defScope st) f cdv A outer s H E) (defBody st) t ∧ ∀ μ ds post exc, ds.length = ps.length → Pd μ ds post exc → GS K (fun cls d _ H => E cls d H) (fun m _ C d => exc m C d) μ (startD N ds) t { nx := fun m _ => post m .non, rt := post }) :
    FnOk P w K mg base (L2.CX P w) (k + 1) f fd ps (spD K ps.length Pd) := by
  refine F.okX S (fun vs H Q E h => ?_) fun cdv A outer s H vs Q E hr h => ?_
  · obtain ⟨μ, ds, post, exc, _, d, hl, _⟩ := h
    rw [← d.length, hl]
  · obtain ⟨μ, ds, post, exc, m, d, hl, hp, h1, h2⟩ := h
    obtain ⟨t, ht, hg⟩ := hb cdv A outer s H E hr
    refine ⟨t, ht, hg μ ds post exc hl hp (L2.start N vs) H _ m (envIs_start d) ?_ ⟨?_, ?_, fun _ _ _ _ z => z.elim, fun _ _ _ _ z => z.elim⟩⟩
    · intro μ' ρ' C d dx v σ' H' p gr mm ee hx hd dd
      exact h2 μ' C d dx v H' p gr mm hx hd dd
    · intro μ' ρ' σ' H' p gr mm ee
      exact h1 μ' .non .non H' p gr mm (by unfold Den; rfl)
    · intro μ' d v H' p gr mm dd
      exact h1 μ' d v H' p gr mm dd
/-- another promise that follows -/
theorem fn_imp {CX : CXT} {k : Nat} {f : Addr} {fd : FuncData} {ps : List Str} {n : Nat} {P1 P2 : PD} (F : FnOk P w K mg base CX k f fd ps (spD K n P1)) (h : ∀ μ ds post exc, P2 μ ds post exc → P1 μ ds post exc) :
    FnOk P w K mg base CX k f fd ps (spD K n P2) := F.imp fun vs H Q E ⟨μ, ds, post, exc, m, d, hl, hp, r⟩ => ⟨μ, ds, post, exc, m, d, hl, h _ _ _ _ hp, r⟩
end
/-! ### while -/
section
variable {K : PySem.W.Frag} {W : WX} {X : XD} {μ μ' : Mu} {H H' : Hp} {ρ : Ro} {E : ED} {tt tu : TT} {Φ : DP} {t : TS}
theorem gs_while (Iv : Nat → Mu → Ro → Prop) (m0 : Nat) (h0 : Iv m0 μ ρ) (hs : ∀ m μ' ρ', Iv m μ' ρ' → EvB K W X μ' ρ' tt fun μ1 b => if b = true then GS K W X μ1 ρ' t { E with nx := fun μ2 ρ2 => ∃ m', m' < m ∧ Iv m' μ2 ρ2, ct := fun μ2 ρ2 => ∃ m', m' < m ∧ Iv m' μ2 ρ2, bk := E.nx } else E.nx μ1 ρ') :
    GS K W X μ ρ (tWhile tt t) E := fun σ H D mm e l k => by
  refine ⟨fun m σ' H' => ∃ μ' ρ', Iv m μ' ρ' ∧ Grow μ H μ' H' ∧ Mem K μ' H' ∧ EnvIs K μ' H' ρ' σ', ⟨m0, μ, ρ, h0, Grow.refl _ _, mm, e⟩, ?_⟩
  rintro m σ' H' ⟨μ', ρ', p, gr, m1, ee⟩
  refine hs m μ' ρ' p σ' H' _ m1 ee (l.grow gr) fun μ1 b H1 h1 g1 m2 => ?_
  cases b with
  | false =>
    rw [if_neg (by decide)] at h1 ⊢
    exact k.nx _ _ _ _ h1 (gr.trans g1) m2 (ee.grow g1)
  | true =>
    rw [if_pos rfl] at h1 ⊢
    have gg := gr.trans g1
    refine ⟨_, fun _ _ z => z, h1 σ' H1 _ m2 (ee.grow g1) (l.grow gg) ⟨?_, fun _ _ _ _ h x => k.rt _ _ _ _ h (gg.trans x), fun _ _ _ _ h x => k.nx _ _ _ _ h (gg.trans x), ?_⟩⟩
    · rintro μ2 ρ2 σ2 H2 ⟨m', hm, q⟩ g2 m3 e3
      exact ⟨m', hm, μ2, ρ2, q, gg.trans g2, m3, e3⟩
    · rintro μ2 ρ2 σ2 H2 ⟨m', hm, q⟩ g2 m3 e3
      exact ⟨m', hm, μ2, ρ2, q, gg.trans g2, m3, e3⟩
end
/-! ### operations of wide ints -/
def CMulB (i j : Int) : Prop := ∃ a b : Nat, i.natAbs < 2 ^ a ∧ j.natAbs < 2 ^ b ∧ a + b ≤ 134000000
def CPowB (i j : Int) : Prop := 0 ≤ j ∧ ∃ a : Nat, i.natAbs < 2 ^ a ∧ a * j.toNat ≤ 134000000
def CDivB (_ j : Int) : Prop := j ≠ 0 ∧ j.natAbs < 2 ^ 9000
theorem intBits_le {x : Int} {a : Nat} (h : x.natAbs < 2 ^ a) : Builtin.Int.intBits x ≤ a := by
  unfold Builtin.Int.intBits
  split
  · omega
  · rename_i hx
    have h0 : x.natAbs ≠ 0 := by simpa using hx
    have : x.natAbs.log2 < a := (Nat.log2_lt h0).mpr h
    omega
theorem CMulB.ok {i j : Int} (h : CMulB i j) : IntMulOk i j := by
  obtain ⟨a, b, h1, h2, h3⟩ := h
  have b1 := intBits_le h1
  have b2 := intBits_le h2
  have e : bitsLine = 134217728 := by decide
  unfold IntMulOk
  intro z
  rw [Bool.and_eq_true] at z
  have z2 := z.2
  unfold Builtin.Int.intTooBig at z2
  have z3 := of_decide_eq_true z2
  rw [e] at z3
  omega
/-- either reading -/
def rOr (r r' : R2) : R2 := fun x y H Q => r x y H Q ∨ r' x y H Q
section
variable {X : Cx}
theorem op_or2 {f : Value → Value → Sem Value} {r r' : R2} (a : OpR X f r) (b : OpR X f r') : OpR X f (rOr r r') := fun pins s σ H x y v u Q I rx ry h => by
  rcases h with h | h
  · exact a pins s σ H x y v u Q I rx ry h
  · exact b pins s σ H x y v u Q I rx ry h
theorem op_mulB : OpR X (binaryOp .Mult) (rI CMulB fun i j => .int (i * j)) := opI fun _ _ _ _ _ _ _ hc q => mul_int q hc.ok
theorem op_divB : OpR X (binaryOp .FloorDiv) (rI CDivB fun i j => .int (i.fdiv j)) := opI fun _ _ _ _ _ _ _ hc q => floordiv_int hc.1 q (.inl (PyProof.noPylong_of_log2 ((Nat.log2_lt (by have := hc.1; omega)).mpr hc.2)))
theorem op_powB : OpR X (binaryOp .Pow) (rI CPowB fun i j => .int (i ^ j.toNat)) := opI fun i j _ _ _ _ _ hc q => by
  obtain ⟨h0, a, h1, h2⟩ := hc
  refine pow_int h0 ?_ q
  have b1 := intBits_le h1
  have e : ((j.toNat : Nat) : Int) = j := Int.toNat_of_nonneg h0
  have : Builtin.Int.intBits i * j.toNat ≤ 134000000 := Nat.le_trans (Nat.mul_le_mul_right _ b1) h2
  rw [← e]
  have q2 : ((Builtin.Int.intBits i * j.toNat : Nat) : Int) ≤ ((134000000 : Nat) : Int) := Int.ofNat_le.mpr this
  rw [Int.natCast_mul] at q2
  exact Int.le_trans q2 (by decide)
/-- a + b: ints, texts, lists, tuples -/
def rAddS : R2 := fun x y H Q => ∃ i j, x = .str i ∧ y = .str j ∧ i.length + j.length ≤ sizeLine ∧ Q (.str (i ++ j)) H
theorem op_addS : OpR X (binaryOp .Add) rAddS := op_add_str
abbrev rAddU (K : PySem.W.Frag) : R2 := rOr (rI0 fun i j => .int (i + j)) (rOr rAddS (rOr rCat (rCatT K)))
theorem op_addU : OpR X (binaryOp .Add) (rAddU X.K) := op_or2 op_add (op_or2 op_addS (op_or2 op_cat op_catT))
abbrev rMulU : R2 := rOr (rI CMulB fun i j => .int (i * j)) rRep
theorem op_mulU : OpR X (binaryOp .Mult) rMulU := op_or2 op_mulB op_rep
abbrev rEqU (K : PySem.W.Frag) : R2 := rOr rEq (rEqD K)
abbrev rNeU (K : PySem.W.Frag) : R2 := rOr rNe (rNeD K)
theorem op_eqU (hu : X.A.units + 64 < cLine) : OpR X (compareOp .Eq) (rEqU X.K) := op_or2 op_eq (op_eqD hu)
theorem op_neU (hu : X.A.units + 64 < cLine) : OpR X (compareOp .NotEq) (rNeU X.K) := op_or2 op_ne (op_neD hu)
end
/-! ### over data -/
section
variable {K : PySem.W.Frag} {W : WX} {X : XD} {μ μ' : Mu} {H H' : Hp} {ρ : Ro} {E : ED} {ta tb te tx tl : TE} {Φ : DP} {x y : D} {r r' : R2} {i j : Int}
theorem opx_l (h : OpX K r μ x y Φ) : OpX K (rOr r r') μ x y Φ := fun H v w Q m a b k => .inl (h H v w Q m a b k)
theorem opx_r (h : OpX K r' μ x y Φ) : OpX K (rOr r r') μ x y Φ := fun H v w Q m a b k => .inr (h H v w Q m a b k)
theorem opx_i {C : Int → Int → Prop} {g : Int → Int → Int} (hc : C i j) (h : Φ μ (.int (g i j))) : OpX K (rI C fun i j => .int (g i j)) μ (.int i) (.int j) Φ := fun H v w Q m a b k => by
  unfold Den at a b
  exact ⟨i, j, a, b, hc, k μ _ _ H h (Grow.refl _ _) m (by unfold Den; rfl)⟩
theorem opx_i0 {g : Int → Int → Int} (h : Φ μ (.int (g i j))) : OpX K (rI0 fun i j => .int (g i j)) μ (.int i) (.int j) Φ := fun H v w Q m a b k => by
  unfold Den at a b
  exact ⟨i, j, a, b, k μ _ _ H h (Grow.refl _ _) m (by unfold Den; rfl)⟩
theorem opx_b0 {g : Int → Int → Bool} (h : Φ μ (.bl (g i j))) : OpX K (rI0 fun i j => .bl (g i j)) μ (.int i) (.int j) Φ := fun H v w Q m a b k => by
  unfold Den at a b
  exact ⟨i, j, a, b, k μ _ _ H h (Grow.refl _ _) m (by unfold Den; rfl)⟩
theorem opx_addS {a b : Str} (hl : a.length + b.length ≤ 1000000) (h : Φ μ (.str (a ++ b))) : OpX K rAddS μ (.str a) (.str b) Φ := fun H v w Q m p q k => by
  unfold Den at p q
  exact ⟨a, b, p, q, Nat.le_trans hl (by decide), k μ _ _ H h (Grow.refl _ _) m (by unfold Den; rfl)⟩
theorem opx_eqI (h : Φ μ (.bl (decide (i = j)))) : OpX K rEq μ (.int i) (.int j) Φ := fun H v w Q m a b k => by
  unfold Den at a b
  subst a b
  refine ⟨rfl, k μ _ _ H h (Grow.refl _ _) m ?_⟩
  unfold Den
  congr 1
  simp
theorem opx_neI (h : Φ μ (.bl (!decide (i = j)))) : OpX K rNe μ (.int i) (.int j) Φ := fun H v w Q m a b k => by
  unfold Den at a b
  subst a b
  refine ⟨rfl, k μ _ _ H h (Grow.refl _ _) m ?_⟩
  unfold Den
  congr 1
  simp
theorem opx_eqS {i j : Str} (h : Φ μ (.bl (decide (i = j)))) : OpX K rEq μ (.str i) (.str j) Φ := fun H v w Q m a b k => by
  unfold Den at a b
  subst a b
  refine ⟨rfl, k μ _ _ H h (Grow.refl _ _) m ?_⟩
  unfold Den
  congr 1
  simp
theorem opx_neS {i j : Str} (h : Φ μ (.bl (!decide (i = j)))) : OpX K rNe μ (.str i) (.str j) Φ := fun H v w Q m a b k => by
  unfold Den at a b
  subst a b
  refine ⟨rfl, k μ _ _ H h (Grow.refl _ _) m ?_⟩
  unfold Den
  congr 1
  simp
theorem opx_eqB {i j : Bool} (h : Φ μ (.bl (decide (i = j)))) : OpX K rEq μ (.bl i) (.bl j) Φ := fun H v w Q m a b k => by
  unfold Den at a b
  subst a b
  refine ⟨rfl, k μ _ _ H h (Grow.refl _ _) m ?_⟩
  unfold Den
  congr 1
  simp
theorem opx_neB {i j : Bool} (h : Φ μ (.bl (!decide (i = j)))) : OpX K rNe μ (.bl i) (.bl j) Φ := fun H v w Q m a b k => by
  unfold Den at a b
  subst a b
  refine ⟨rfl, k μ _ _ H h (Grow.refl _ _) m ?_⟩
  unfold Den
  congr 1
  simp
def isNon : D → Bool
  | .non => true
  | _ => false
theorem den_non {d : D} {v : V} (h : Den K μ H d v) : decide (v = .non) = isNon d := by
  cases d <;> unfold Den at h <;> unfold isNon
  case non => rw [h]; rfl
  case bl => rw [h]; rfl
  case int => rw [h]; rfl
  case str => rw [h]; rfl
  case ty => rw [h]; rfl
  case «at» => rw [h]; rfl
  case tup => obtain ⟨p, vs, e, _⟩ := h; rw [e]; rfl
  case lst => obtain ⟨p, vs, e, _⟩ := h; rw [e]; rfl
  case frz => obtain ⟨p, vs, e, _⟩ := h; rw [e]; rfl
  case dct => obtain ⟨p, vs, e, _⟩ := h; rw [e]; rfl
  case obj => obtain ⟨p, dx, vs, e, _⟩ := h; rw [e]; rfl
  case exc => obtain ⟨p, dx, vs, e, _⟩ := h; rw [e]; rfl
theorem evx_isN (h : EvX K W X μ ρ te fun μ1 d => Φ μ1 (.bl (isNon d))) : EvX K W X μ ρ (tIsN te) Φ := fun σ H Q m e l k =>
  h σ H _ m e l fun μ1 d v H1 h1 g1 m1 d1 => k μ1 _ _ H1 h1 g1 m1 (by rw [den_non d1]; unfold Den; rfl)
theorem evx_notN (h : EvX K W X μ ρ te fun μ1 d => Φ μ1 (.bl (!isNon d))) : EvX K W X μ ρ (tNotN te) Φ := fun σ H Q m e l k =>
  h σ H _ m e l fun μ1 d v H1 h1 g1 m1 d1 => k μ1 _ _ H1 h1 g1 m1 (by rw [den_non d1]; unfold Den; rfl)
theorem unx_i {g : Int → Int} (h : Φ μ (.int (g i))) : UnX K (rU fun i => .int (g i)) μ (.int i) Φ := fun H v Q m a k => by
  unfold Den at a
  exact ⟨i, a, k μ _ _ H h (Grow.refl _ _) m (by unfold Den; rfl)⟩
/-! ### built-ins -/
theorem denL1 {d : D} {vs : List V} (h : DenL K μ H [d] vs) : ∃ v, vs = [v] ∧ Den K μ H d v := by
  unfold DenL at h
  obtain ⟨v, ws, e, a, b⟩ := h
  unfold DenL at b
  subst b
  exact ⟨v, e, a⟩
theorem denL2 {d d' : D} {vs : List V} (h : DenL K μ H [d, d'] vs) : ∃ v v', vs = [v, v'] ∧ Den K μ H d v ∧ Den K μ H d' v' := by
  unfold DenL at h
  obtain ⟨v, ws, e, a, b⟩ := h
  obtain ⟨v', e', b'⟩ := denL1 b
  subst e'
  exact ⟨v, v', e, a, b'⟩
theorem cax_abs (h : Φ μ (.int (if i < 0 then -i else i))) : CaX K (fun xs H Q => ∃ i, xs = [.int i] ∧ Q (.int (if i < 0 then -i else i)) H) μ [.int i] Φ := fun H vs Q m d k => by
  obtain ⟨v, e, a⟩ := denL1 d
  unfold Den at a
  subst a
  exact ⟨i, e, k μ _ _ H h (Grow.refl _ _) m (by unfold Den; rfl)⟩
theorem cax_int (h : Φ μ (.int i)) : CaX K (fun xs H Q => (∃ i, xs = [.int i] ∧ Q (.int i) H) ∨ ∃ k, xs = [.bl k] ∧ Q (.int (if k then 1 else 0)) H) μ [.int i] Φ := fun H vs Q m d k => by
  obtain ⟨v, e, a⟩ := denL1 d
  unfold Den at a
  subst a
  exact .inl ⟨i, e, k μ _ _ H h (Grow.refl _ _) m (by unfold Den; rfl)⟩
theorem cax_intB {b : Bool} (h : Φ μ (.int (if b then 1 else 0))) : CaX K (fun xs H Q => (∃ i, xs = [.int i] ∧ Q (.int i) H) ∨ ∃ k, xs = [.bl k] ∧ Q (.int (if k then 1 else 0)) H) μ [.bl b] Φ := fun H vs Q m d k => by
  obtain ⟨v, e, a⟩ := denL1 d
  unfold Den at a
  subst a
  exact .inr ⟨b, e, k μ _ _ H h (Grow.refl _ _) m (by unfold Den; rfl)⟩
theorem cax_gcd (h : Φ μ (.int ((Nat.gcd i.natAbs j.natAbs : Nat) : Int))) : CaX K rGcd μ [.int i, .int j] Φ := fun H vs Q m d k => by
  obtain ⟨v, v', e, a, b⟩ := denL2 d
  unfold Den at a b
  subst a b
  exact ⟨i, j, e, k μ _ _ H h (Grow.refl _ _) m (by unfold Den; rfl)⟩
theorem cax_max2 (h : Φ μ (.int (if j > i then j else i))) : CaX K (fun xs H Q => ∃ i j, xs = [.int i, .int j] ∧ Q (.int (if j > i then j else i)) H) μ [.int i, .int j] Φ := fun H vs Q m d k => by
  obtain ⟨v, v', e, a, b⟩ := denL2 d
  unfold Den at a b
  subst a b
  exact ⟨i, j, e, k μ _ _ H h (Grow.refl _ _) m (by unfold Den; rfl)⟩
theorem cax_min2 (h : Φ μ (.int (if j < i then j else i))) : CaX K (fun xs H Q => ∃ i j, xs = [.int i, .int j] ∧ Q (.int (if j < i then j else i)) H) μ [.int i, .int j] Φ := fun H vs Q m d k => by
  obtain ⟨v, v', e, a, b⟩ := denL2 d
  unfold Den at a b
  subst a b
  exact ⟨i, j, e, k μ _ _ H h (Grow.refl _ _) m (by unfold Den; rfl)⟩
/-- len: a list (kept, frozen or one that may change), a tuple, a text -/
def LenD (μ : Mu) : D → Nat → Prop
  | .lst ds, n => n = ds.length
  | .frz ds, n => n = ds.length
  | .tup ds, n => n = ds.length
  | .str z, n => z.length ≤ 1000000 ∧ n = z.length
  | .at a, n => ∃ ds, μ a = some (.lst ds) ∧ n = ds.length
  | _, _ => False
theorem cax_len {n : Nat} (hx : LenD μ x n) (h : Φ μ (.int n)) : CaX K (fun xs H Q => ∃ x n, xs = [x] ∧ LenV K x H n ∧ Q (.int n) H) μ [x] Φ := fun H vs Q m d k => by
  obtain ⟨v, e, a⟩ := denL1 d
  refine ⟨v, n, e, ?_, k μ _ _ H h (Grow.refl _ _) m (by unfold Den; rfl)⟩
  cases x <;> unfold Den at a <;> unfold LenD at hx <;> try exact hx.elim
  case str => subst a; exact ⟨Nat.le_trans hx.1 (by decide), hx.2⟩
  case tup =>
    obtain ⟨p, us, e, s, b⟩ := a
    subst e
    exact .inr ⟨us, s.sq, by rw [hx, b.length]⟩
  case lst =>
    obtain ⟨p, us, e, s, b⟩ := a
    subst e
    exact .inl ⟨us, SqL.of s.2, by rw [hx, b.length]⟩
  case frz =>
    obtain ⟨p, us, e, s, b⟩ := a
    subst e
    exact .inl ⟨us, s.sq, by rw [hx, b.length]⟩
  case «at» =>
    obtain ⟨ds, q, en⟩ := hx
    obtain ⟨us, e1, b⟩ := m _ _ q
    subst a
    exact .inl ⟨us, SqL.of e1, by rw [en, b.length]⟩
/-! ### items -/
/-- the items of something that has a place for each -/
def ItemsD (μ : Mu) : D → List D → Prop
  | .lst ds, es => es = ds
  | .frz ds, es => es = ds
  | .tup ds, es => es = ds
  | .at a, es => μ a = some (.lst es)
  | _, _ => False
theorem atI_den {ds : List D} {vs : List V} {i : Int} {d : D} (b : DenL K μ H ds vs) (h : atI ds i = some d) : ∃ v, atI vs i = some v ∧ Den K μ H d v := by
  unfold atI at h ⊢
  rw [← b.length]
  cases q : ixN ds.length i with
  | none => rw [q] at h; cases h
  | some j =>
    rw [q] at h
    have h' : ds[j]? = some d := h
    obtain ⟨v, h1, h2⟩ := b.get h'
    exact ⟨v, h1, h2⟩
theorem opx_ix {es : List D} {d : D} (hx : ItemsD μ x es) (ha : atI es i = some d) (h : Φ μ d) : OpX K (rIx K) μ x (.int i) Φ := fun H v w Q m a b k => by
  unfold Den at b
  subst b
  cases x <;> unfold Den at a <;> unfold ItemsD at hx <;> try exact hx.elim
  case tup =>
    obtain ⟨p, us, e, s, b⟩ := a
    subst e hx
    obtain ⟨u, q1, q2⟩ := atI_den b ha
    exact .inr (.inl ⟨p, us, i, u, rfl, rfl, s.sq, q1, k μ _ _ H h (Grow.refl _ _) m q2⟩)
  case lst =>
    obtain ⟨p, us, e, s, b⟩ := a
    subst e hx
    obtain ⟨u, q1, q2⟩ := atI_den b ha
    exact .inl ⟨p, us, i, u, rfl, rfl, SqL.of s.2, q1, k μ _ _ H h (Grow.refl _ _) m q2⟩
  case frz =>
    obtain ⟨p, us, e, s, b⟩ := a
    subst e hx
    obtain ⟨u, q1, q2⟩ := atI_den b ha
    exact .inl ⟨p, us, i, u, rfl, rfl, s.sq, q1, k μ _ _ H h (Grow.refl _ _) m q2⟩
  case «at» =>
    obtain ⟨us, e1, b⟩ := m _ _ hx
    subst a
    obtain ⟨u, q1, q2⟩ := atI_den b ha
    exact .inl ⟨_, us, i, u, rfl, rfl, SqL.of e1, q1, k μ _ _ H h (Grow.refl _ _) m q2⟩
theorem opx_ixS {z : Str} {c : Nat} (hz : z.length ≤ 1000000) (ha : atI z.cps.toList i = some c) (h : Φ μ (.str ⟨#[c]⟩)) : OpX K (rIx K) μ (.str z) (.int i) Φ := fun H v w Q m a b k => by
  unfold Den at a b
  subst a b
  exact .inr (.inr ⟨z, i, c, rfl, rfl, Nat.le_trans hz (by decide), ha, k μ _ _ H h (Grow.refl _ _) m (by unfold Den; rfl)⟩)
theorem atI_pos {α : Type} {xs : List α} {n : Nat} {v : α} (h : xs[n]? = some v) : atI xs (n : Int) = some v := atI_nat h
/-- x[i] = e -/
theorem tgx_sub {to ti : TE} {d : D} {Φ : Mu → Ro → Prop} (h : EvX K W X μ ρ to fun μ1 o => EvX K W X μ1 ρ ti fun μ2 i => ∃ a ds k j, o = .at a ∧ i = .int k ∧ μ2 a = some (.lst ds) ∧ ixN ds.length k = some j ∧ Φ (mput μ2 a (.lst (ds.set j d))) ρ) :
    TgX K W X μ ρ (gSub to ti rSetL) d Φ := fun σ H v Q m e l dd k =>
  h σ H _ m e l fun μ1 o ov H1 h1 g1 m1 d1 => h1 σ H1 _ m1 (e.grow g1) (l.grow g1) fun μ2 i iv H2 ⟨a, ds, kk, j, e1, e2, ha, hj, hp⟩ g2 m2 d2 => by
    subst e1 e2
    unfold Den at d1 d2
    subst d1 d2
    obtain ⟨us, q, b⟩ := m2 a _ ha
    have gg := g1.trans g2
    refine ⟨a, us, kk, j, rfl, rfl, q, by rw [← b.length]; exact hj, k _ ρ σ _ hp (gg.trans (Grow.wr ha)) (m2.wr ha ⟨_, upd_same, DenL.set (Den.grow (gg.trans (Grow.wr ha)) _ _ dd) j (DenL.grow (Grow.wr ha) _ _ b)⟩) ((e.grow gg).grow (Grow.wr ha))⟩
/-! ### methods of lists -/
theorem evx_append {to : TE} {p : Addr} {ds : List D} (ho : ∀ Φ : DP, Φ μ (.at p) → EvX K W X μ ρ to Φ) (h : EvX K W X μ ρ te fun μ1 d => ∃ ds, μ1 p = some (.lst ds) ∧ ds.length ≤ 1000000 ∧ Φ (mput μ1 p (.lst (ds ++ [d]))) .non) (h0 : μ p = some (.lst ds)) :
    EvX K W X μ ρ (tBM K "list" rAppend to (tCons te tNil)) Φ := fun σ H Q m e l k =>
  ho (fun μ1 d => μ1 = μ ∧ d = .at p) ⟨rfl, rfl⟩ σ H _ m e l fun μ0 d0 v0 H0 ⟨e1, e2⟩ g0 m0 d0' => by
    subst e1 e2
    unfold Den at d0'
    subst d0'
    obtain ⟨us0, q0, b0⟩ := m0 p _ h0
    refine ⟨.inl ⟨rfl, us0, SqL.of q0⟩, ?_⟩
    refine h σ H0 _ m0 (e.grow g0) (l.grow g0) fun μ1 d v H1 ⟨ds1, hp, hz, hq⟩ g1 m1 d1 => ?_
    obtain ⟨us, q, b⟩ := m1 p _ hp
    exact ⟨p, us, v, rfl, rfl, q, by rw [← b.length]; exact Nat.lt_of_le_of_lt hz (by decide), k _ _ _ _ hq ((g0.trans g1).trans (Grow.wr hp)) (m1.wr hp ⟨_, upd_same, (DenL.grow (Grow.wr hp) _ _ b).append (DenL.cons (Den.grow (Grow.wr hp) _ _ d1) DenL.nil)⟩) (by unfold Den; rfl)⟩
end
section
variable {X : Cx} {pins : List (Addr × Obj)} {σ : L2.St} {H : Hp} {s : Shared}
/-- an object of ours, untracked till now, is tracked from now on -/
theorem inv_track {a : Addr} {o : HO} (I : L2.Inv X pins σ H s) (hn : H a = none) (h0 : X.s_0.heap.get? a = none) (hL : a ≠ X.env.locals) (hc : ∀ x c, X.env.cells.lookup x = some c → c ≠ a) (hp : ∀ p ∈ X.pn ++ pins, p.1 ≠ a)
    (ok : ObjOk X.prog X.w (upd H a o) s.heap a o) : L2.Inv X pins σ (upd H a o) s := by
  have ne : ∀ {b u}, H b = some u → b ≠ a := fun {b u} e z => by rw [z, hn] at e; cases e
  have n0 : ∀ {b u}, X.s_0.heap.get? b = some u → b ≠ a := fun {b u} e z => by rw [z, h0] at e; cases e
  have B := I.base
  have base' : Un X.fs X.ex X.H_0 (upd H a o) X.s_0.heap s.heap := {
    keep := B.keep
    slot := B.slot
    free := fun b u e q x => (upd_ne (n0 e)).trans (B.free b u e q x)
    there := B.there
    tups := fun b xs e => (upd_ne (ne (B.tups b xs e))).trans (B.tups b xs e)
    frzs := fun b u v e => (upd_ne (ne (B.frzs b u v e))).trans (B.frzs b u v e)
    tbls := fun b ps e => by
      obtain ⟨m, q⟩ := B.tbls b ps e
      exact ⟨m, (upd_ne (ne q)).trans q⟩ }
  refine ⟨I.ok, I.os, I.bare, base', I.loc, I.cell, (upd_ne (Ne.symm hL)).trans I.free, fun x c e => (upd_ne (hc x c e)).trans (I.freeC x c e), fun p q => ?_, fun b u e => ?_, I.len⟩
  · obtain ⟨h1, h2, h3⟩ := I.pin p q
    exact ⟨h1, (upd_ne (hp p q)).trans h2, h3⟩
  · by_cases hb : b = a
    · subst hb
      rw [upd_same] at e
      cases e
      exact ok
    · rw [upd_ne hb] at e
      exact (I.hok b u e).stay (fun _ _ _ z => z) (fun c q => (upd_ne (ne q)).trans q) fun c xs q => (upd_ne (ne q)).trans q
/-- what a clause «except x as n», that keeps the error, wishes of the body's errors -/
def wKeep (K : PySem.W.Frag) (c : Value) (i : Nat) (ts : Addr → TS) (Dd : Ends) : WX := fun cls d σ H => ∃ C dx, cls = .ref C ∧ d = some dx ∧ PySem.W.exmOne K cls c = some true ∧
  ∀ a, H a = none → ts a { nx := fun σ' H' => H' a = none → Dd.nx (σ'.set i none) (upd H' a (ExT a C dx)), rt := fun v H' => H' a = none → Dd.rt v (upd H' a (ExT a C dx)) } (σ.set i (some (.ref a))) H
/-- try: body, except c as n: suite, the error kept -/
def tTry (K : PySem.W.Frag) (c : Value) (i : Nat) (ts : Addr → TS) (tb : WX → TS) : TS := fun Dd σ H => tb (wKeep K c i ts Dd) Dd σ H
variable {x n : Str} {c : Value} {i : Nat} {body suite : List Stmt} {b0 : Stmt} {np pos pos' : Pos} {tb : WX → TS} {ts : Addr → TS}
theorem ps_try_keep (hs : X.stack = X.env :: X.outer) (hf : X.env.frame = some X.env.locals) (hex : X.ex = []) (hN : X.N.Nodup) (hi : X.N[i]? = some n) (hln : X.env.kindOf n = some .local) (hc : Names X x c)
    (hb : ∀ (W : WX) (pn : List (Addr × Obj)) (xe : Value → Shared → Prop), Takes (X.tr pn xe) W → PassesOwn (model X.prog X.w) X.A X.env xe → PSs (X.tr pn xe) body (tb W))
    (hsu : ∀ (a : Addr) (oe : Obj) (pn : List (Addr × Obj)), PSs (X.suite a ((a, oe) :: pn)) (b0 :: suite) (ts a)) :
    PS X (.Try body [.ExceptHandler (some (.Name x np)) (some n) (b0 :: suite) pos'] [] [] pos) (tTry X.K c i ts tb) := by
  constructor
  intro pins s σ H Dd I h
  have ok := I.ok
  have hfr : X.A.frames = some (X.env :: X.outer) := by rw [ok.frames, hs]
  apply wpAny_Try_except
  let xq : Value → Shared → Prop := fun e s₁ => wpAny (model X.prog X.w) X.A (noteFrame e X.env) (fun _ s₂ => wpAny (model X.prog X.w) X.A (setFlight e none) (fun _ s₃ =>
    wpAny (model X.prog X.w) X.A (handleBy e X.env [.ExceptHandler (some (.Name x np)) (some n) (b0 :: suite) pos']) (SP X pins Dd) X.xe s₃) X.xe s₂) X.xe s₁
  have caught : Takes (X.tr (X.pn ++ pins) xq) (wKeep X.K c i ts Dd) := by
    intro u s' xx
    obtain ⟨a, B, sI, pins', σ', H', cls, d, hu, J', nb, up, sky, na, os, ag, C, dx, hcls, hd, hm, hgo⟩ := xx
    subst hu hcls hd
    have J : L2.Inv X pins σ' H' sI := J'.ofTry ok
    have sky2 : Sky B (X.env :: X.outer) a (Zc (.ref C) (some dx)) X.env.locals s'.heap := by
      rw [← hs]
      exact sky
    show wpAny (model X.prog X.w) X.A (noteFrame (.ref a) X.env) _ _ _
    apply Sky.land Zc.steady hfr hf sky2
    intro h3 fl3 up3
    have J3 : L2.Inv X pins σ' H' { s' with heap := h3 } := J.landed nb fl3.1 (up.trans up3) os ag
    obtain ⟨o3, v3, he3, hz3, hd3⟩ := fl3.there
    have nfr : a ∉ frs (X.env :: X.outer) := fun hm => by
      obtain ⟨_, o', e', hnf⟩ := fl3.2.2.1.mem hm
      rw [he3] at e'
      cases e'
      exact hnf _ hd3
    have nL : a ≠ X.env.locals := fun z => nfr (List.mem_filterMap.mpr ⟨X.env, List.mem_cons_self, by rw [hf, z]⟩)
    have nF : a ∉ X.fs := fun hm => by
      obtain ⟨e, he, q⟩ := List.mem_filterMap.mp hm
      exact nfr (List.mem_filterMap.mpr ⟨e, List.mem_cons_of_mem _ he, q⟩)
    -- the error is younger than the state it flew from
    have young : sI.heap.get? a = none := by
      cases e : sI.heap.get? a with
      | none => rfl
      | some o =>
        have q := nb a o e (by show a ∉ frs X.stack; rw [hs]; exact nfr)
        have q2 : B.get? a = none := fl3.2.1
        rw [q2] at q
        cases q
    have y0 : X.s_0.heap.get? a = none := by
      cases e : X.s_0.heap.get? a with
      | none => rfl
      | some o =>
        obtain ⟨o', q⟩ := J.base.there a o e (by rw [hex]; exact List.not_mem_nil)
        rw [young] at q
        cases q
    have yc : ∀ x c, X.env.cells.lookup x = some c → c ≠ a := fun y cc e z => by
      obtain ⟨v, o, q, _⟩ := J.cell y cc e
      rw [z, young] at q
      cases q
    have yp : ∀ p ∈ X.pn ++ pins, p.1 ≠ a := fun p hp z => by
      have q := (J.pin p hp).1
      rw [z, young] at q
      cases q
    have S3 := J3.suite he3 hd3 na nL nF
    refine wpAny_handleBy_cons (codeAny_handlers_test ?_) (by intro q; cases q)
    have LT : PySem.W.Looks (model X.prog X.w) h3 (typeOf (.ref a)) (.ref C) := fun A Q E s k q => wpAny_typeOf_ref (k _ _ he3) (by rw [hz3.1]; exact q)
    have LM := PySem.W.exm_one (M := model X.prog X.w) (J3.kIn) LT hm
    have test : ∀ {Q : Value → Shared → Prop} {E : Value → Shared → Prop}, Q c { s' with heap := h3 } → wpAny (model X.prog X.w) (X.A.mark (some (.ref a))) (eval (.Name x np) X.env) Q E { s' with heap := h3 } := by
      intro Q E q
      rcases hc with ⟨hg, hdbg, hm1 | ⟨hm1, hv, hnn⟩⟩
      · exact ld_glob (X := X.suite a ((a, o3) :: (X.pn ++ pins))) S3 hg hm1 q hdbg
      · exact ld_blt (X := X.suite a ((a, o3) :: (X.pn ++ pins))) S3 hg hm1 hv q hnn hdbg
    refine test (LM.here ?_)
    refine codeAny_handlers_suite_as (HandSPX.lands_againZ fl3 fun h4 fl4 up4 => ?_)
    have J4 : L2.Inv X pins σ' H' { s' with heap := h4 } := J.landed nb fl4.1 ((up.trans up3).trans up4) os ag
    obtain ⟨o4, v4, he4, hz4, hd4⟩ := fl4.there
    have S4 := J4.suite he4 hd4 na nL nF
    refine store_ok (X := X.suite a ((a, o4) :: (X.pn ++ pins))) (v := .ref a) S4 hN hi (.inl hln) rfl (fun s5 S5 => ?_) (.inr hln)
    refine wpAny_mono ((hsu a o4 (X.pn ++ pins)).run [] s5 _ H' _ S5 (hgo a na)) (fun f s6 hsp => ?_) (fun _ _ z => False.elim z)
    have fin : ∀ {σ6 : L2.St} {H6 : Hp} {Q : Shared → Prop}, L2.Inv (X.suite a ((a, o4) :: (X.pn ++ pins))) [] σ6 H6 s6 → (∀ s7, H6 a = none → L2.Inv X pins (σ6.set i none) (upd H6 a (ExT a C dx)) s7 → Q s7) →
        wpAny (model X.prog X.w) X.A (do bindName X.env n .none; unbindBehindTheSuite X.env n pos') (fun _ s7 => Q s7) X.xe s6 := by
      intro σ6 H6 Q S6 hq
      obtain ⟨ga, gn, _⟩ := S6.pin (a, o4) (List.mem_append_left _ List.mem_cons_self)
      have T := inv_track (S6.unsuite ok) gn y0 nL yc yp (o := ExT a C dx) ⟨⟨o4, v4, ga, hz4.1, hz4.2, hd4⟩, ⟨o4, ga⟩, fun h1 h2 ⟨o, v, e, r⟩ k => ⟨o, v, k o e, r⟩⟩
      exact gone_ok T hN hi hln fun s7 J7 => hq s7 gn J7
    cases f with
    | next =>
      obtain ⟨σ6, H6, S6, q6⟩ := hsp
      exact fin S6 fun s7 g J7 => ⟨_, _, J7, q6 g⟩
    | brk =>
      obtain ⟨σ6, H6, S6, q6⟩ := hsp
      exact q6.elim
    | cont =>
      obtain ⟨σ6, H6, S6, q6⟩ := hsp
      exact q6.elim
    | ret u =>
      obtain ⟨v6, σ6, H6, S6, r6, q6⟩ := hsp
      exact fin S6 fun s7 g J7 => ⟨_, _, _, J7, r6, q6 g⟩
  refine wpAny_mono ((hb _ (X.pn ++ pins) xq caught PassesOwn.looking).run [] s σ H Dd (I.toTry _) h) (fun f s1 hsp => ?_) (fun e s1 he => he)
  rcases f with _ | _ | _ | u
  · obtain ⟨σ', H', J', q⟩ := hsp
    exact wpAny_execs_nil ⟨σ', H', J'.ofTry ok, q⟩
  · obtain ⟨σ', H', J', q⟩ := hsp
    exact ⟨σ', H', J'.ofTry ok, q⟩
  · obtain ⟨σ', H', J', q⟩ := hsp
    exact ⟨σ', H', J'.ofTry ok, q⟩
  · obtain ⟨v, σ', H', J', r, q⟩ := hsp
    exact ⟨v, σ', H', J'.ofTry ok, r, q⟩
end
/-- what the written part says of an own error's class -/
structure ExcK (K : PySem.W.Frag) (C : Addr) : Prop where
  ox : OexC K C
  nv : PySem.W.findIn K (.ref C) "value" = some none
  ga : PySem.W.findIn K (.ref C) "__getattribute__" = some (some (.builtin "BaseException.__getattribute__"))
  gg : PySem.W.findIn K (.ref C) "__getattr__" = some none
  hd : PySem.W.hasDictIn K C = true
  ha : PySem.W.findIn K (.ref C) "__class__" = some (some (.builtin "object.__class__"))
  hm : PySem.W.mroIn K C (.type "object") = some true
/-- what it says of the getter of classes -/
structure ClsG (K : PySem.W.Frag) : Prop where
  hn : PySem.W.specialIn K (.builtin "object.__class__") "__get__" = some (some (.builtin "getset_descriptor.__get__"))
  ht : PySem.W.takesIn K (.builtin "object.__class__") = some true
section
variable {X : Cx} {H : Hp} {a C : Addr}
theorem ext_at {s : Shared} {pins : List (Addr × Obj)} {σ : L2.St} {dx : Addr} (I : L2.Inv X pins σ H s) (h : H a = some (ExT a C dx)) : ∃ (oe : Obj) (vs : Array Value), s.heap.get? a = some oe ∧ oe.cls = .ref C ∧ oe.dict = some dx ∧ oe.data = .fields vs := (I.hok a _ h).1
/-- e.value -/
def tXv (K : PySem.W.Frag) (te : TE) : TE := fun σ H Q => te σ H fun x H1 => ∃ (a C dx : Addr) (v : V), x = .ref a ∧ H1 a = some (ExT a C dx) ∧ ExcK K C ∧ H1 dx = some (.xd [(("value" : Str), v)]) ∧ Q v H1
theorem pe_xv {e : Expr} {te : TE} {pos : Pos} (he : PE X e te) (hb : attributeBase e "value" X.env (eval e X.env) = eval e X.env := by rfl) : PE X (.Attribute e "value" pos) (tXv X.K te) := by
  constructor
  intro pins s σ H Q I h
  refine attr_of hb (thn (he.run pins s σ H _ I h) fun u s1 hh => ?_)
  obtain ⟨x, H1, I1, rx, a, C, dx, v, ex, ea, T, ed, q⟩ := hh
  subst ex
  obtain rfl : u = Value.ref a := rx
  obtain ⟨oe, vs, h1, h2, h3, h4⟩ := ext_at I1 ea
  have hx : ObjOk X.prog X.w H1 s1.heap dx (.xd [(("value" : Str), v)]) := I1.hok dx _ ed
  obtain ⟨mA, hns, hr⟩ := hx
  obtain ⟨od, ho, hl⟩ := lookIn_ns hns
  obtain ⟨u, hu, ru⟩ := RelO.some_of (v := v) (o := mA "value") (by
    have q := hr "value"
    simpa [List.lookup] using q)
  have J : PySem.W.InstAt s1.heap a oe C (some od) := ⟨h1, h2, by unfold PySem.W.notCls; rw [h4] <;> rfl, by rw [h3]; exact ho⟩
  exact HandSPX.exc_get I1.kIn J T.ga T.gg T.ox.exC (PySem.W.findObj_own T.hd T.nv rfl (by rw [hl, hu])) (handed_of ru) ⟨v, H1, I1.tok _, ru, q⟩
/-- isinstance(e, c), isinstance(e, (c, ..)) of an own error -/
def rIsX (K : PySem.W.Frag) : List V → Hp → VK → Prop := fun xs H Q => ∃ (a D dx : Addr) (c : V) (u : Value) (b : Bool), xs = [.ref a, c] ∧ H a = some (ExT a D dx) ∧ (∃ fs, H dx = some (.xd fs)) ∧ ExcK K D ∧ ClsG K ∧ ClsV c u ∧ PySem.W.kitOne K (.ref D) u = some b ∧ Q (.bl b) H
def rIsXT (K : PySem.W.Frag) : List V → Hp → VK → Prop := fun xs H Q => ∃ (a D dx tp : Addr) (cs : List V) (us : List Value) (b : Bool), xs = [.ref a, .ref tp] ∧ H a = some (ExT a D dx) ∧ (∃ fs, H dx = some (.xd fs)) ∧ ExcK K D ∧ ClsG K ∧ H tp = some (.tup cs) ∧ Paired ClsV cs us ∧ PySem.W.kitAny K (.ref D) us = some b ∧ Q (.bl b) H
theorem inst_ex {s : Shared} {pins : List (Addr × Obj)} {σ : L2.St} {D dx : Addr} (I : L2.Inv X pins σ H s) (h : H a = some (ExT a D dx)) (hd : ∃ fs, H dx = some (.xd fs)) : ∃ (oe od : Obj), PySem.W.InstAt s.heap a oe D (some od) := by
  obtain ⟨oe, vs, h1, h2, h3, h4⟩ := ext_at I h
  obtain ⟨fs, hd⟩ := hd
  have hx : ObjOk X.prog X.w H s.heap dx (.xd fs) := I.hok dx _ hd
  obtain ⟨mA, hns, hr⟩ := hx
  obtain ⟨od, ho, hl⟩ := lookIn_ns hns
  exact ⟨oe, od, h1, h2, by unfold PySem.W.notCls; rw [h4] <;> rfl, by rw [h3]; exact ho⟩
theorem call_isX : CallR X (.builtin "isinstance") (rIsX X.K) := by
  intro pins s σ H xs us Q I r h
  obtain ⟨a, D, dx, c, u, b, rfl, ha, hd, T, G, k, e, q⟩ := h
  obtain ⟨u1, u2, rfl, r1, r2⟩ := vals2 r
  have e2 := k.eq r2
  subst e2
  obtain rfl : u1 = Value.ref a := r1
  obtain ⟨oe, od, J⟩ := inst_ex I ha hd
  have hcl : (PySem.W.clsIn X.K D).isSome = true := by
    obtain ⟨cd, hc, _⟩ := PySem.W.any_some T.hd
    rw [hc]; rfl
  exact PySem.W.kia_one (PySem.W.kitx_exc hcl T.ga T.gg T.ox.exC T.ha G.hn G.ht T.hm) I.kIn J e (fun z => nomatch z) fun tk => ⟨.bl b, H, I.tok tk, rfl, q⟩
theorem call_isXT : CallR X (.builtin "isinstance") (rIsXT X.K) := by
  intro pins s σ H xs us Q I r h
  obtain ⟨a, D, dx, tp, cs, ws, b, rfl, ha, hd, T, G, hT, k, e, q⟩ := h
  obtain ⟨u1, u2, rfl, r1, r2⟩ := vals2 r
  obtain rfl : u1 = Value.ref a := r1
  obtain rfl : u2 = Value.ref tp := r2
  obtain ⟨oe, od, J⟩ := inst_ex I ha hd
  have hcl : (PySem.W.clsIn X.K D).isSome = true := by
    obtain ⟨cd, hc, _⟩ := PySem.W.any_some T.hd
    rw [hc]; rfl
  obtain ⟨_, its, rv, o, h1, h2, n, h3⟩ := (show ObjOk X.prog X.w H s.heap tp (.tup cs) from I.hok tp _ hT)
  have e3 := ClsV.all k rv
  subst e3
  obtain ⟨oc, od', dt, sl⟩ := o
  simp only at h2 h3
  subst h2 h3
  exact PySem.W.kia_tup (PySem.W.kitx_exc hcl T.ga T.gg T.ox.exC T.ha G.hn G.ht T.hm) I.kIn J h1 e (fun z => nomatch z) fun tk => ⟨.bl b, H, I.tok tk, rfl, q⟩
theorem call_or {f : Value} {r r' : List V → Hp → VK → Prop} (a : CallR X f r) (b : CallR X f r') : CallR X f (fun xs H Q => r xs H Q ∨ r' xs H Q) := fun pins s σ H xs us Q I rx h => by
  rcases h with h | h
  · exact a pins s σ H xs us Q I rx h
  · exact b pins s σ H xs us Q I rx h
/-- isinstance -/
abbrev rIsU (K : PySem.W.Frag) : List V → Hp → VK → Prop := fun xs H Q => (rIsi K xs H Q ∨ rIsiT K xs H Q) ∨ (rIsX K xs H Q ∨ rIsXT K xs H Q)
theorem call_isU : CallR X (.builtin "isinstance") (rIsU X.K) := call_or (call_or call_isi call_isiT) (call_or call_isX call_isXT)
end
/-! ### over data -/
/-- the type of plain data -/
def tyD : D → Option String
  | .non => some "NoneType" | .bl _ => some "bool" | .int _ => some "int" | .str _ => some "str"
  | .tup _ => some "tuple" | .lst _ => some "list" | .frz _ => some "list" | .dct _ _ => some "dict"
  | _ => none
/-- the type of data, what may change with it -/
def tyM (μ : Mu) : D → Option String
  | .at a => match μ a with
    | some (.lst _) => some "list"
    | some (.dct _ _) => some "dict"
    | _ => none
  | d => tyD d
section
variable {K : PySem.W.Frag} {W : WX} {X : XD} {μ μ' : Mu} {H H' : Hp} {ρ : Ro} {E : ED} {ta tb te tx tl : TE} {Φ : DP} {x y : D}
theorem den_ty {T : String} {v : V} (m : Mem K μ H) (h : Den K μ H x v) (ht : tyM μ x = some T) : TyX K H v (.type T) := by
  cases x <;> unfold Den at h <;> unfold tyM at ht <;> try unfold tyD at ht
  case non => cases ht; subst h; exact .base .non
  case bl => cases ht; subst h; exact .base (.bl _)
  case int => cases ht; subst h; exact .base (.int _)
  case str => cases ht; subst h; exact .base (.str _)
  case tup =>
    cases ht
    obtain ⟨p, vs, e, s, _⟩ := h
    subst e
    rcases s with ⟨_, s | ⟨o, s⟩⟩ | ⟨o, its, n, h1, h2, _⟩
    · exact .base (.tup s)
    · exact .fTuple s
    · exact .kTuple h1 h2
  case lst =>
    cases ht
    obtain ⟨p, vs, e, s, _⟩ := h
    subst e
    exact .base (.lst s.2)
  case frz =>
    cases ht
    obtain ⟨p, vs, e, s, _⟩ := h
    subst e
    rcases s with ⟨_, s | ⟨o, s⟩⟩ | ⟨o, its, n, h1, h2, _⟩
    · exact .base (.lst s)
    · exact .base (.frz s)
    · exact .kList h1 h2
  case dct =>
    cases ht
    obtain ⟨p, vs, e, s, _⟩ := h
    subst e
    exact .base (.dK s.2)
  case «at» a =>
    subst h
    dsimp only at ht
    cases q : μ a with
    | none => rw [q] at ht; cases ht
    | some o =>
      rw [q] at ht
      have hm := m a o q
      cases o with
      | lst ds => cases ht; obtain ⟨vs, e, _⟩ := hm; exact .base (.lst e)
      | dct ks ds => cases ht; obtain ⟨vs, e, _⟩ := hm; exact .base (.dK e)
      | obj C fs ds => cases ht
  all_goals (cases ht)
/-- isinstance of plain data, a built-in class -/
theorem cax_is {T c : String} {b : Bool} (ht : tyM μ x = some T) (hk : kitB T c = some b) (h : Φ μ (.bl b)) : CaX K (rIsU K) μ [x, .ty c] Φ := fun H vs Q m d k => by
  obtain ⟨v, v', e, a, a'⟩ := denL2 d
  unfold Den at a'
  subst a'
  exact .inl (.inl ⟨v, .ty c, .type T, .type c, b, e, .ty c, den_ty m a ht, kit_ty hk, k μ _ _ H h (Grow.refl _ _) m (by unfold Den; rfl)⟩)
/-- .. of one of some built-in classes -/
def kitBs (T : String) : List String → Option Bool
  | [] => some false
  | c :: cs => match kitB T c with
    | some true => some true
    | some false => kitBs T cs
    | none => none
theorem kitBs_ok {T : String} : ∀ {cs : List String} {b : Bool}, kitBs T cs = some b → PySem.W.kitAny K (.type T) (cs.map Value.type) = some b
  | [], b, h => h
  | c :: cs, b, h => by
    unfold kitBs at h
    show (match PySem.W.kitOne K (.type T) (.type c) with | some true => some true | some false => PySem.W.kitAny K (.type T) (cs.map Value.type) | none => none) = some b
    cases q : kitB T c with
    | none => rw [q] at h; cases h
    | some r =>
      rw [q] at h
      rw [kit_ty q]
      cases r with
      | true => exact h
      | false => exact kitBs_ok h
theorem denL_tys : ∀ {cs : List String} {vs : List V}, DenL K μ H (cs.map D.ty) vs → Paired ClsV vs (cs.map Value.type)
  | [], vs, h => by
    have h' : DenL K μ H [] vs := h
    unfold DenL at h'; subst h'; exact .nil
  | c :: cs, vs, h => by
    have h' : DenL K μ H (.ty c :: cs.map D.ty) vs := h
    unfold DenL at h'
    obtain ⟨w, ws, e, a, b⟩ := h'
    unfold Den at a
    subst e a
    exact .cons (.ty c) (denL_tys b)
theorem stT_own {p : Addr} {vs : List V} {o : Obj} (h : StT K μ H p vs) (hu : H p = some (.tup vs)) : True := True.intro
theorem cax_isT {T : String} {cs : List String} {b : Bool} (ht : tyM μ x = some T) (hk : kitBs T cs = some b) (h : Φ μ (.bl b)) {vs : List V} {Q : VK} {p : Addr} {us : List V} (m : Mem K μ H) {v : V} (hv : Den K μ H x v) (hp : H p = some (.tup us)) (hu : DenL K μ H (cs.map D.ty) us)
    (k : ∀ μ' d u H', Φ μ' d → Grow μ H μ' H' → Mem K μ' H' → Den K μ' H' d u → Q u H') : rIsU K [v, .ref p] H Q :=
  .inl (.inr ⟨v, p, us, .type T, cs.map Value.type, b, rfl, hp, denL_tys hu, den_ty m hv ht, kitBs_ok hk, k μ _ _ H h (Grow.refl _ _) m (by unfold Den; rfl)⟩)
/-- isinstance(e, (A, B, ..)), the tuple written -/
theorem evx_isT {tr : TA} {cs : List String} (hr : ∀ (μ1 : Mu) (Ψ : Mu → List D → Prop), Ψ μ1 (cs.map D.ty) → EvL K W X μ1 ρ tr Ψ) (hc : cs.length ≤ 1000) (h : EvX K W X μ ρ te fun μ1 d => ∃ T b, tyM μ1 d = some T ∧ kitBs T cs = some b ∧ Φ μ1 (.bl b)) :
    EvX K W X μ ρ (tCB (rIsU K) (tCons te (tCons (tTup tr) tNil))) Φ := fun σ H Q m e l k =>
  h σ H _ m e l fun μ1 d v H1 ⟨T, b, ht, hk, hp⟩ g1 m1 d1 => hr μ1 (fun μ2 ds => μ2 = μ1 ∧ ds = cs.map D.ty) ⟨rfl, rfl⟩ σ H1 _ m1 (e.grow g1) (l.grow g1) fun μ2 ds us H2 ⟨e1, e2⟩ g2 m2 d2 => by
    subst e1 e2
    refine ⟨by rw [← d2.length, List.length_map]; exact Nat.le_trans hc (by decide), fun p hp2 => ?_⟩
    have gn : Grow μ2 H2 μ2 (upd H2 p (.tup us)) := Grow.new hp2
    exact cax_isT ht hk hp (vs := []) (m2.new hp2) (Den.grow gn _ _ (Den.grow g2 _ _ d1)) upd_same (DenL.grow gn _ _ d2) fun μ' d' u H' p' g' => k μ' d' u H' p' (((g1.trans g2).trans gn).trans g')
/-! ### own errors -/
theorem evx_xv (h : EvX K W X μ ρ te fun μ1 x => ∃ C d, x = .exc C d ∧ ExcK K C ∧ Φ μ1 d) : EvX K W X μ ρ (tXv K te) Φ := fun σ H Q m e l k =>
  h σ H _ m e l fun μ1 x v H1 ⟨C, d, e1, T, hp⟩ g1 m1 d1 => by
    subst e1
    unfold Den at d1
    obtain ⟨p, dx, w, e2, s, t, b⟩ := d1
    exact ⟨p, C, dx, w, e2, s.2, T, t.2, k μ1 d w H1 hp g1 m1 b⟩
theorem cax_isX {C c : Addr} {d : D} {b : Bool} (T : ExcK K C) (G : ClsG K) (hk : PySem.W.kitOne K (.ref C) (.ref c) = some b) (h : Φ μ (.bl b)) : CaX K (rIsU K) μ [.exc C d, .at c] Φ := fun H vs Q m dd k => by
  obtain ⟨v, v', e, a, a'⟩ := denL2 dd
  unfold Den at a a'
  obtain ⟨p, dx, w, e2, s, t, _⟩ := a
  subst a' e2
  exact .inr (.inl ⟨p, C, dx, .ref c, .ref c, b, e, s.2, ⟨_, t.2⟩, T, G, .own c, hk, k μ _ _ H h (Grow.refl _ _) m (by unfold Den; rfl)⟩)
theorem cax_isXB {C : Addr} {c : String} {d : D} {b : Bool} (T : ExcK K C) (G : ClsG K) (hk : PySem.W.kitOne K (.ref C) (.type c) = some b) (h : Φ μ (.bl b)) : CaX K (rIsU K) μ [.exc C d, .ty c] Φ := fun H vs Q m dd k => by
  obtain ⟨v, v', e, a, a'⟩ := denL2 dd
  unfold Den at a a'
  obtain ⟨p, dx, w, e2, s, t, _⟩ := a
  subst a' e2
  exact .inr (.inl ⟨p, C, dx, .ty c, .type c, b, e, s.2, ⟨_, t.2⟩, T, G, .ty c, hk, k μ _ _ H h (Grow.refl _ _) m (by unfold Den; rfl)⟩)
theorem denL_ats : ∀ {cs : List Addr} {vs : List V}, DenL K μ H (cs.map D.at) vs → Paired ClsV vs (cs.map Value.ref)
  | [], vs, h => by
    have h' : DenL K μ H [] vs := h
    unfold DenL at h'; subst h'; exact .nil
  | c :: cs, vs, h => by
    have h' : DenL K μ H (.at c :: cs.map D.at) vs := h
    unfold DenL at h'
    obtain ⟨w, ws, e, a, b⟩ := h'
    unfold Den at a
    subst e a
    exact .cons (.own c) (denL_ats b)
theorem evx_isXT {tr : TA} {cs : List Addr} (G : ClsG K) (hr : ∀ (μ1 : Mu) (Ψ : Mu → List D → Prop), Ψ μ1 (cs.map D.at) → EvL K W X μ1 ρ tr Ψ) (hc : cs.length ≤ 1000) (h : EvX K W X μ ρ te fun μ1 x => ∃ C d b, x = .exc C d ∧ ExcK K C ∧ PySem.W.kitAny K (.ref C) (cs.map Value.ref) = some b ∧ Φ μ1 (.bl b)) :
    EvX K W X μ ρ (tCB (rIsU K) (tCons te (tCons (tTup tr) tNil))) Φ := fun σ H Q m e l k =>
  h σ H _ m e l fun μ1 x v H1 ⟨C, d, b, e0, T, hk, hp⟩ g1 m1 d1 => hr μ1 (fun μ2 ds => μ2 = μ1 ∧ ds = cs.map D.at) ⟨rfl, rfl⟩ σ H1 _ m1 (e.grow g1) (l.grow g1) fun μ2 ds us H2 ⟨e1, e2⟩ g2 m2 d2 => by
    subst e0 e1 e2
    refine ⟨by rw [← d2.length, List.length_map]; exact Nat.le_trans hc (by decide), fun p hp2 => ?_⟩
    have gn : Grow μ2 H2 μ2 (upd H2 p (.tup us)) := Grow.new hp2
    have dd := Den.grow gn _ _ (Den.grow g2 _ _ d1)
    unfold Den at dd
    obtain ⟨q, dx, w, e3, s, t, _⟩ := dd
    subst e3
    exact .inr (.inr ⟨q, C, dx, p, us, _, b, rfl, s.2, ⟨_, t.2⟩, T, G, upd_same, denL_ats (DenL.grow gn _ _ d2), hk, k μ2 _ _ _ hp ((g1.trans g2).trans gn) (m2.new hp2) (by unfold Den; rfl)⟩)
/-- try: body, except c as n: m = n -/
theorem gs_try {tb : WX → TS} {c : Value} {i j : Nat} (hij : i ≠ j)
    (h : ∀ W', GS K W' (fun μ' ρ' C d => PySem.W.exmOne K (.ref C) c = some true ∧ i < ρ'.length ∧ E.nx μ' ((ρ'.set j (some (.exc C d))).set i none)) μ ρ (tb W') E) :
    GS K W X μ ρ (tTry K c i (fun _ => tAsg (tVar i) (gName j)) tb) E := fun σ H Dd m e l k => by
  refine h _ σ H Dd m e ?_ k
  rintro μ' ρ' C d dx v σ' H' ⟨hm, hi, hx⟩ gr mm ee hdx hd dd
  refine ⟨C, dx, rfl, rfl, hm, fun a ha => ?_⟩
  have hl : i < σ'.length := by rw [ee.1]; exact hi
  refine ⟨.ref a, List.getElem?_set_self hl, fun ha' => ?_⟩
  have gn : Grow μ' H' μ' (upd H' a (ExT a C dx)) := Grow.new ha
  have ne : dx ≠ a := ne_of_none hd ha
  refine k.nx _ _ _ _ hx (gr.trans gn) (mm.new ha) ?_
  have e1 : ((σ'.set i (some (.ref a))).set j (some (.ref a))).set i none = (σ'.set j (some (.ref a))).set i none := by
    rw [List.set_comm _ _ hij, List.set_set]
  rw [e1]
  refine ((ee.grow gn).set ?_ j).unset i
  unfold Den
  exact ⟨a, dx, v, rfl, ⟨mm.free ha, upd_same⟩, ⟨hdx, by rw [upd_ne ne]; exact hd⟩, Den.grow gn _ _ dd⟩
theorem kit_self {a : Addr} : PySem.W.kitOne K (.ref a) (.ref a) = some true := by
  unfold PySem.W.kitOne
  rw [if_pos (by simp)]
end
section
variable {X : Cx} {CX : CXT} {k : Nat} {f C : Addr} {fd : FuncData} {ps ks : List Str} {sp : Sp} {E : XK} {x m : Str} {p pos apos kpos : Pos} {kws : List Keyword} {tk : TA} {g : List Value → List Value → List Value} {gV : List V → List V → List V}
/-- f(k = v, ..), no place given -/
theorem pe_callK0 (F : FnOk X.prog X.w X.K X.mg X.base CX k f fd ps sp) (hr : Room k X.A) (hg : Gl X x) (hm : X.mg x = some (.ref f)) (hk : PySem.W.keepIn X.K (.ref f) = true) (hb : KBinds X.K fd ps ks g gV) (hx : Passes CX X E)
    (hkw : PK X kws tk) (hall : (backToKw pos (keywordEach kws X.env)).all (·.1.isSome) = true := by rfl) (hks : (backToKw pos (keywordEach kws X.env)).filterMap (·.1) = ks := by rfl)
    (hdb : (x == ("__debug__" : Str)) = false := by decide) (hn : ((backTo pos (starEach [] X.env)).any (·.1) || (backToKw pos (keywordEach kws X.env)).any (·.1.isNone)) = false := by rfl) :
    PE X (.Call (.Name x p) [] kws pos) (tCallK sp gV E tNil tk) := by
  constructor
  intro pins s σ H Q I h
  apply wpAny_Call_Name_kw (ld_glob I hg hm ?_ hdb)
  refine PySem.W.callWith_KW0 (h₀ := X.base) I.ok.mod.kin hk hall ?_ hn
  refine thn (hkw.run pos pins s σ H _ I h) fun ws s2 hh => ?_
  obtain ⟨zs, H2, I2, rz, q2⟩ := hh
  refine ⟨I2.kIn, ?_⟩
  rw [hks]
  exact run_fnk F hr hb hx I2 .nil rz q2
end
/-- the data in the parameters' order: the places of n given ones and m named ones -/
def permG {α : Type} (n m : Nat) (pm : List Nat) (us ws : List α) : List α := if us.length = n ∧ ws.length = m then pm.filterMap fun i => (us ++ ws)[i]? else []
theorem perm_vals : ∀ {pm : List Nat} {vs : List V} {us : List Value}, Vals vs us → Vals (pm.filterMap fun i => vs[i]?) (pm.filterMap fun i => us[i]?)
  | [], _, _, _ => .nil
  | i :: pm, vs, us, h => by
    rw [List.filterMap_cons, List.filterMap_cons]
    cases e : vs[i]? with
    | none =>
      rw [h.none_of e]
      exact perm_vals h
    | some v =>
      obtain ⟨u, h1, h2⟩ := h.get e
      rw [h1]
      exact .cons h2 (perm_vals h)
theorem perm_den {K : PySem.W.Frag} {μ : Mu} {H : Hp} : ∀ {pm : List Nat} {ds : List D} {vs : List V}, DenL K μ H ds vs → DenL K μ H (pm.filterMap fun i => ds[i]?) (pm.filterMap fun i => vs[i]?)
  | [], _, _, _ => DenL.nil
  | i :: pm, ds, vs, h => by
    rw [List.filterMap_cons, List.filterMap_cons]
    cases e : ds[i]? with
    | none =>
      have : vs[i]? = none := by
        rw [List.getElem?_eq_none_iff] at e ⊢
        rw [← h.length]; exact e
      rw [this]
      exact perm_den h
    | some d =>
      obtain ⟨v, h1, h2⟩ := h.get e
      rw [h1]
      exact DenL.cons h2 (perm_den h)
/-- a def of the module that keeps its promise, with all that a call of it asks -/
structure Cal (P : Program) (w : World) (K : PySem.W.Frag) (mg : Str → Option Value) (base : Heap) (CX : CXT) (k : Nat) (x : Str) (st : Stmt) (ps : List Str) (sp : Sp) : Prop where
  ex : ∃ (f : Addr) (fd : FuncData), mg x = some (.ref f) ∧ Fun K x x st f fd ∧ FnOk P w K mg base CX k f fd ps sp ∧ Binds K fd ps []
def Std (K : PySem.W.Frag) (mg : Str → Option Value) (x : Str) (st : Stmt) : Prop := ∃ (f : Addr) (fd : FuncData), mg x = some (.ref f) ∧ Fun K x x st f fd
section
variable {P : Program} {w : World} {K : PySem.W.Frag} {mg : Str → Option Value} {base : Heap} {x : Str} {st : Stmt} {N ps : List Str} {k : Nat}
theorem cal0 {Pd : PD} (h : Std K mg x st) (S : FnScope N ps (defScope st))
    (hbi : ∀ (kV doc pm : Value) (an : Option Addr) (cdv ct : Value) (us : List Value), us.length = ps.length → bindArgs (PySem.W.fnOf x x (defArgs st) (defBody st) (defScope st) .none kV doc pm an cdv ct) ⟨us, []⟩ = pure (ps.zip us))
    (hb : ∀ (f : Addr) (cdv : Value) (A : Around) (outer : List Env) (s : Shared) (H : Hp) (E : XK), Room k (A.deeper (envOfC x (defScope st) s.heap.objs.size f cdv)) →
      ∃ t, PSs (cxOf CX0 P w K mg base N x (defScope st) f cdv A outer s H E).nox (defBody st) t ∧ ∀ μ ds post exc, ds.length = ps.length → Pd μ ds post exc → GS K WN XN μ (startD N ds) t { nx := fun m _ => post m .non, rt := post }) :
    Cal P w K mg base CX0 (k + 1) x st ps (spD K ps.length Pd) := by
  obtain ⟨f, fd, h1, F⟩ := h
  exact ⟨f, fd, h1, F, def_ok F S (hb f), F.binds hbi⟩
theorem calX {Pd : PD} (h : Std K mg x st) (S : FnScope N ps (defScope st))
    (hbi : ∀ (kV doc pm : Value) (an : Option Addr) (cdv ct : Value) (us : List Value), us.length = ps.length → bindArgs (PySem.W.fnOf x x (defArgs st) (defBody st) (defScope st) .none kV doc pm an cdv ct) ⟨us, []⟩ = pure (ps.zip us))
    (hb : ∀ (f : Addr) (cdv : Value) (A : Around) (outer : List Env) (s : Shared) (H : Hp) (E : XK), Room k (A.deeper (envOfC x (defScope st) s.heap.objs.size f cdv)) →
      ∃ t, PSs (cxOf (L2.CX P w) P w K mg base N x (defScope st) f cdv A outer s H E) (defBody st) t ∧ ∀ μ ds post exc, ds.length = ps.length → Pd μ ds post exc → GS K (fun cls d _ H => E cls d H) (fun m _ C d => exc m C d) μ (startD N ds) t { nx := fun m _ => post m .non, rt := post }) :
    Cal P w K mg base (L2.CX P w) (k + 1) x st ps (spD K ps.length Pd) := by
  obtain ⟨f, fd, h1, F⟩ := h
  exact ⟨f, fd, h1, F, def_okX F S (hb f), F.binds hbi⟩
theorem Cal.imp {CX : CXT} {n : Nat} {P1 P2 : PD} (c : Cal P w K mg base CX k x st ps (spD K n P1)) (h : ∀ μ ds post exc, P2 μ ds post exc → P1 μ ds post exc) : Cal P w K mg base CX k x st ps (spD K n P2) := by
  obtain ⟨f, fd, h1, F, G, b⟩ := c.ex
  exact ⟨f, fd, h1, F, fn_imp G h, b⟩
theorem Cal.mono {CX : CXT} {sp : Sp} {j : Nat} (c : Cal P w K mg base CX k x st ps sp) (h : k ≤ j) : Cal P w K mg base CX j x st ps sp := by
  obtain ⟨f, fd, h1, F, G, b⟩ := c.ex
  exact ⟨f, fd, h1, F, G.mono h, b⟩
theorem kb_of {f : Addr} {fd : FuncData} {n m : Nat} {pm : List Nat} {ks : List Str} (F : Fun K x x st f fd) (hp : ps ≠ [])
    (h : ∀ (kV doc pv : Value) (an : Option Addr) (cdv ct : Value) (us ws : List Value), us.length = n → ws.length = m → bindArgs (PySem.W.fnOf x x (defArgs st) (defBody st) (defScope st) .none kV doc pv an cdv ct) ⟨us, ks.zip ws⟩ = pure (ps.zip (pm.filterMap fun i => (us ++ ws)[i]?))) :
    KBinds K fd ps ks (permG n m pm) (permG n m pm) := by
  obtain ⟨oc, od, kV, doc, pv, an, cdv, ct, osl, rfl, lk, hcd⟩ := F.ex
  refine ⟨fun s us ws _ hl => ?_, fun {vs us zs ws} r rz => ?_⟩
  · unfold permG at hl ⊢
    by_cases c : us.length = n ∧ ws.length = m
    · rw [if_pos c] at hl ⊢
      exact .of_eq (h kV doc pv an cdv ct us ws c.1 c.2)
    · rw [if_neg c] at hl
      exact absurd (List.length_eq_zero_iff.mp hl.symm) hp
  · unfold permG
    rw [r.length, rz.length]
    by_cases c : us.length = n ∧ ws.length = m
    · rw [if_pos c, if_pos c]
      exact perm_vals (r.append rz)
    · rw [if_neg c, if_neg c]
      exact .nil
theorem permG_den {μ : Mu} {H : Hp} {n m : Nat} {pm : List Nat} {ds es : List D} {vs ws : List V} (a : DenL K μ H ds vs) (b : DenL K μ H es ws) : DenL K μ H (permG n m pm ds es) (permG n m pm vs ws) := by
  unfold permG
  rw [a.length, b.length]
  by_cases c : vs.length = n ∧ ws.length = m
  · rw [if_pos c, if_pos c]
    exact perm_den (a.append b)
  · rw [if_neg c, if_neg c]
    exact DenL.nil
end
section
variable {X : Cx} {k j : Nat} {st : Stmt} {ps ks : List Str} {sp : Sp} {x : Str} {p pos : Pos} {e : Expr} {es : List Expr} {t tk : TA} {kws : List Keyword} {n m : Nat} {pm : List Nat}
/-- a call of such a def; no error leaves it -/
theorem pe_c (c : Cal X.prog X.w X.K X.mg X.base CX0 k x st ps sp) (hr : Room j X.A) (hj : k ≤ j) (ha : PA X (e :: es) t) (hg : Gl X x := by rfl) (hdb : (x == ("__debug__" : Str)) = false := by decide)
    (he : starEach (e :: es) X.env = (false, eval e X.env) :: starEach es X.env := by rfl) (hpl : (backTo pos (starEach es X.env)).any (·.1) = false := by rfl) : PE X (.Call (.Name x p) (e :: es) [] pos) (tCall sp [] E0 t) := by
  obtain ⟨f, fd, h1, F, G, b⟩ := c.ex
  exact pe_call G (hr.mono hj) hg h1 F.kp b .nil pass0 ha hdb he hpl
theorem pe_c0 (c : Cal X.prog X.w X.K X.mg X.base CX0 k x st ps sp) (hr : Room j X.A) (hj : k ≤ j) (hg : Gl X x := by rfl) (hdb : (x == ("__debug__" : Str)) = false := by decide) : PE X (.Call (.Name x p) [] [] pos) (tCall sp [] E0 tNil) := by
  obtain ⟨f, fd, h1, F, G, b⟩ := c.ex
  have h := pe_call0 (p := p) (pos := pos) G (hr.mono hj) hg h1 F.kp b .nil (pass0 (X := X)) hdb
  exact ⟨fun pins s σ H Q I q => h.run pins s σ H Q I q⟩
theorem pe_cS {W : WX} (c : Cal X.prog X.w X.K X.mg X.base (L2.CX X.prog X.w) k x st ps sp) (hr : Room j X.A) (hj : k ≤ j) (tk : Takes X W) (ha : PA X (e :: es) t) (hg : Gl X x := by rfl) (hdb : (x == ("__debug__" : Str)) = false := by decide)
    (he : starEach (e :: es) X.env = (false, eval e X.env) :: starEach es X.env := by rfl) (hpl : (backTo pos (starEach es X.env)).any (·.1) = false := by rfl) : PE X (.Call (.Name x p) (e :: es) [] pos) (tCallS sp (WE W) t) := by
  obtain ⟨f, fd, h1, F, G, b⟩ := c.ex
  exact pe_callS G (hr.mono hj) hg h1 F.kp b (fun σ => passAt tk σ) ha hdb he hpl
theorem pe_ck (c : Cal X.prog X.w X.K X.mg X.base CX0 k x st ps sp) (hr : Room j X.A) (hj : k ≤ j) (hp : ps ≠ [])
    (h : ∀ (kV doc pv : Value) (an : Option Addr) (cdv ct : Value) (us ws : List Value), us.length = n → ws.length = m → bindArgs (PySem.W.fnOf x x (defArgs st) (defBody st) (defScope st) .none kV doc pv an cdv ct) ⟨us, ks.zip ws⟩ = pure (ps.zip (pm.filterMap fun i => (us ++ ws)[i]?)))
    (hkw : PK X kws tk) (hg : Gl X x := by rfl) (hall : (backToKw pos (keywordEach kws X.env)).all (·.1.isSome) = true := by rfl) (hks : (backToKw pos (keywordEach kws X.env)).filterMap (·.1) = ks := by rfl)
    (hdb : (x == ("__debug__" : Str)) = false := by decide) (hn : ((backTo pos (starEach [] X.env)).any (·.1) || (backToKw pos (keywordEach kws X.env)).any (·.1.isNone)) = false := by rfl) :
    PE X (.Call (.Name x p) [] kws pos) (tCallK sp (permG n m pm) E0 tNil tk) := by
  obtain ⟨f, fd, h1, F, G, b⟩ := c.ex
  exact pe_callK0 G (hr.mono hj) hg h1 F.kp (kb_of F hp h) pass0 hkw hall hks hdb hn
end
section
variable {K : PySem.W.Frag} {W : WX} {X : XD} {μ : Mu} {ρ : Ro} {Φ : DP} {n a b : Nat} {pm : List Nat} {P : PD} {tr tk : TA}
theorem evx_ck (h : EvL K W X μ ρ tr fun μ1 ds => EvL K W X μ1 ρ tk fun μ2 es => (permG a b pm ds es).length = n ∧ P μ2 (permG a b pm ds es) Φ excN) : EvX K W X μ ρ (tCallK (spD K n P) (permG a b pm) E0 tr tk) Φ :=
  evx_callK (permG a b pm) (fun _ _ _ _ _ _ p q => permG_den p q) h
end
/-! ### == of data -/
mutual
def toP : D → PyData
  | .bl b => .bool b
  | .int i => .int i
  | .str x => .str x
  | .tup ds => .tuple (toPs ds)
  | .lst ds => .list (toPs ds)
  | .frz ds => .list (toPs ds)
  | _ => .none
def toPs : List D → List PyData
  | [] => []
  | d :: ds => toP d :: toPs ds
end
mutual
def plainD : D → Bool
  | .non => true
  | .bl _ => true
  | .int _ => true
  | .str x => SeqAt.shaped (.str x)
  | .tup ds => plainDs ds
  | .lst ds => plainDs ds
  | .frz ds => plainDs ds
  | _ => false
def plainDs : List D → Bool
  | [] => true
  | d :: ds => plainD d && plainDs ds
end
def seeD (μ : Mu) : D → D
  | .at a => match μ a with
    | some (.lst ds) => .lst ds
    | _ => .at a
  | d => d
section
variable {K : PySem.W.Frag} {W : WX} {X : XD} {μ μ' : Mu} {H H' : Hp} {ρ : Ro} {E : ED} {ta tb te tx tl : TE} {Φ : DP} {x y : D}
mutual
theorem den_dp : ∀ (d : D) (v : V), Den K μ H d v → plainD d = true → Dp K H v (toP d)
  | .non, v, h, _ => by unfold Den at h; subst h; exact .non
  | .bl b, v, h, _ => by unfold Den at h; subst h; exact .bl b
  | .int i, v, h, _ => by unfold Den at h; subst h; exact .int i
  | .str x, v, h, _ => by unfold Den at h; subst h; exact .str x
  | .tup ds, v, h, p => by
    unfold Den at h
    unfold plainD at p
    obtain ⟨q, vs, e, s, b⟩ := h
    subst e
    exact .tup s.sq (den_dps ds vs b p)
  | .lst ds, v, h, p => by
    unfold Den at h
    unfold plainD at p
    obtain ⟨q, vs, e, s, b⟩ := h
    subst e
    exact .lst (SqL.of s.2) (den_dps ds vs b p)
  | .frz ds, v, h, p => by
    unfold Den at h
    unfold plainD at p
    obtain ⟨q, vs, e, s, b⟩ := h
    subst e
    exact .lst s.sq (den_dps ds vs b p)
  | .dct _ _, v, h, p => by unfold plainD at p; cases p
  | .obj _ _ _, v, h, p => by unfold plainD at p; cases p
  | .exc _ _, v, h, p => by unfold plainD at p; cases p
  | .ty _, v, h, p => by unfold plainD at p; cases p
  | .at _, v, h, p => by unfold plainD at p; cases p
theorem den_dps : ∀ (ds : List D) (vs : List V), DenL K μ H ds vs → plainDs ds = true → DpAll K H vs (toPs ds)
  | [], vs, h, _ => by unfold DenL at h; subst h; exact .nil
  | d :: ds, vs, h, p => by
    unfold DenL at h
    unfold plainDs at p
    rw [Bool.and_eq_true] at p
    obtain ⟨w, ws, e, a, b⟩ := h
    subst e
    exact .cons (den_dp d w a p.1) (den_dps ds ws b p.2)
end
theorem den_see {v : V} (m : Mem K μ H) (h : Den K μ H x v) (p : plainD (seeD μ x) = true) : Dp K H v (toP (seeD μ x)) := by
  cases x
  case «at» a =>
    unfold seeD at p ⊢
    dsimp only at p ⊢
    cases q : μ a with
    | none => rw [q] at p; cases p
    | some o =>
      rw [q] at p
      cases o with
      | lst ds =>
        unfold Den at h
        subst h
        obtain ⟨vs, e, b⟩ := m a _ q
        have p' : plainDs ds = true := p
        exact .lst (SqL.of e) (den_dps ds vs b p')
      | dct _ _ => cases p
      | obj _ _ _ => cases p
  all_goals exact den_dp _ v h p
/-- == over data -/
def eqD (x y : D) : Bool := PyData.eqv (toP x) (toP y)
theorem opx_eqD (h1 : plainD (seeD μ x) = true) (s1 : SeqAt.shaped (toP (seeD μ x)) = true) (h2 : plainD (seeD μ y) = true) (s2 : SeqAt.shaped (toP (seeD μ y)) = true) (h : Φ μ (.bl (eqD (seeD μ x) (seeD μ y)))) : OpX K (rEqD K) μ x y Φ := fun H v w Q m a b k =>
  ⟨_, _, den_see m a h1, den_see m b h2, s1, s2, k μ _ _ H h (Grow.refl _ _) m (by unfold Den; rfl)⟩
theorem opx_neD (h1 : plainD (seeD μ x) = true) (s1 : SeqAt.shaped (toP (seeD μ x)) = true) (h2 : plainD (seeD μ y) = true) (s2 : SeqAt.shaped (toP (seeD μ y)) = true) (h : Φ μ (.bl (!eqD (seeD μ x) (seeD μ y)))) : OpX K (rNeD K) μ x y Φ := fun H v w Q m a b k =>
  ⟨_, _, den_see m a h1, den_see m b h2, s1, s2, k μ _ _ H h (Grow.refl _ _) m (by unfold Den; rfl)⟩
theorem ints_plain (gs : List Int) : plainDs (gs.map D.int) = true := by
  induction gs with
  | nil => rfl
  | cons g gs ih => unfold List.map plainDs; rw [ih]; rfl
theorem ints_shaped (gs : List Int) : SeqAt.shaped (toP (.lst (gs.map D.int))) = true := by
  have h1 : ∀ l : List Int, PyData.canLayAll0 (toPs (l.map D.int)) = true := by
    intro l
    induction l with
    | nil => rfl
    | cons g gs ih =>
      show (PyData.canLay0 (.int g) && PyData.canLayAll0 (toPs (gs.map D.int))) = true
      rw [ih]; rfl
  have h2 : ∀ l : List Int, PyData.depthAll (toPs (l.map D.int)) ≤ 1 := by
    intro l
    induction l with
    | nil => exact Nat.zero_le _
    | cons g gs ih =>
      show max (PyData.depth (.int g)) (PyData.depthAll (toPs (gs.map D.int))) ≤ 1
      exact Nat.max_le.mpr ⟨by show 0 ≤ 1; decide, ih⟩
  unfold SeqAt.shaped
  rw [Bool.and_eq_true]
  refine ⟨?_, ?_⟩
  · show PyData.canLayAll0 (toPs (gs.map D.int)) = true
    exact h1 gs
  · apply decide_eq_true
    show PyData.depthAll (toPs (gs.map D.int)) + 1 ≤ 64
    have := h2 gs
    omega
/-- xs != [] of ints -/
theorem eqD_nil (gs : List Int) : eqD (.lst (gs.map D.int)) (.lst []) = gs.isEmpty := by
  cases gs with
  | nil => rfl
  | cons g gs => rfl
/-! ### more methods of lists -/
/-- o.m(e, ..) of a list that may change -/
theorem evx_bmL {to : TE} {tr : TA} {r : V → List V → Hp → VK → Prop} (h : EvX K W X μ ρ to fun μ1 o => ∃ a ds0, o = .at a ∧ μ1 a = some (.lst ds0) ∧ EvL K W X μ1 ρ tr fun μ2 es => ∃ ds, μ2 a = some (.lst ds) ∧
      ∀ H vs ws Q, Mem K μ2 H → H a = some (.lst vs) → DenL K μ2 H ds vs → DenL K μ2 H es ws → (∀ μ' d u H', Φ μ' d → Grow μ2 H μ' H' → Mem K μ' H' → Den K μ' H' d u → Q u H') → r (.ref a) ws H Q) : EvX K W X μ ρ (tBM K "list" r to tr) Φ := fun σ H Q m e l k =>
  h σ H _ m e l fun μ1 o v H1 ⟨a, ds0, e1, h0, h1⟩ g1 m1 d1 => by
    subst e1
    unfold Den at d1
    subst d1
    obtain ⟨us0, q0, b0⟩ := m1 a _ h0
    refine ⟨.inl ⟨rfl, us0, SqL.of q0⟩, ?_⟩
    refine h1 σ H1 _ m1 (e.grow g1) (l.grow g1) fun μ2 es ws H2 ⟨ds, hp, hk⟩ g2 m2 d2 => ?_
    obtain ⟨us, q, b⟩ := m2 a _ hp
    exact hk H2 us ws Q m2 q b d2 fun μ' d u H' p g => k μ' d u H' p ((g1.trans g2).trans g)
theorem evx_bmL0 {to : TE} {r : V → List V → Hp → VK → Prop} (h : EvX K W X μ ρ to fun μ1 o => ∃ a ds, o = .at a ∧ μ1 a = some (.lst ds) ∧
      ∀ H vs Q, Mem K μ1 H → H a = some (.lst vs) → DenL K μ1 H ds vs → (∀ μ' d u H', Φ μ' d → Grow μ1 H μ' H' → Mem K μ' H' → Den K μ' H' d u → Q u H') → r (.ref a) [] H Q) : EvX K W X μ ρ (tBM0 K "list" r to) Φ := fun σ H Q m e l k =>
  h σ H _ m e l fun μ1 o v H1 ⟨a, ds, e1, hp, hk⟩ g1 m1 d1 => by
    subst e1
    unfold Den at d1
    subst d1
    obtain ⟨us, q, b⟩ := m1 a _ hp
    exact ⟨.inl ⟨rfl, us, SqL.of q⟩, hk H1 us Q m1 q b fun μ' d u H' p g => k μ' d u H' p (g1.trans g)⟩
theorem evx_app {to : TE} (h : EvX K W X μ ρ to fun μ1 o => ∃ a ds0, o = .at a ∧ μ1 a = some (.lst ds0) ∧ EvX K W X μ1 ρ te fun μ2 d => ∃ ds, μ2 a = some (.lst ds) ∧ ds.length ≤ 1000000 ∧ Φ (mput μ2 a (.lst (ds ++ [d]))) .non) : EvX K W X μ ρ (tBM K "list" rAppend to (tCons te tNil)) Φ :=
  evx_bmL (h.imp fun μ1 o ⟨a, ds0, e1, h0, h1⟩ => ⟨a, ds0, e1, h0, evl_cons (h1.imp fun μ2 d ⟨ds, hp, hz, hq⟩ => evl_nil ⟨ds, hp, fun H vs ws Q m q b d2 k => by
    obtain ⟨w, e2, dw⟩ := denL1 d2
    subst e2
    exact ⟨a, vs, w, rfl, rfl, q, by rw [← b.length]; exact Nat.lt_of_le_of_lt hz (by decide), k _ _ _ _ hq (Grow.wr hp) (m.wr hp ⟨_, upd_same, (DenL.grow (Grow.wr hp) _ _ b).append (DenL.cons (Den.grow (Grow.wr hp) _ _ dw) DenL.nil)⟩) (by unfold Den; rfl)⟩⟩)⟩)
abbrev rInsert : V → List V → Hp → VK → Prop := fun x vs H Q => ∃ (l : Addr) (xs : List V) (i : Int) (y : V), x = .ref l ∧ vs = [.int i, y] ∧ H l = some (.lst xs) ∧ xs.length < sizeLine ∧ 0 ≤ i ∧ i < 2 ^ 63 ∧ Q .non (upd H l (.lst (xs.take i.toNat ++ [y] ++ xs.drop i.toNat)))
/-- xs.insert(0, e) -/
theorem evx_ins0 {to : TE} (h : EvX K W X μ ρ to fun μ1 o => ∃ a ds0, o = .at a ∧ μ1 a = some (.lst ds0) ∧ EvX K W X μ1 ρ te fun μ2 d => ∃ ds, μ2 a = some (.lst ds) ∧ ds.length ≤ 1000000 ∧ Φ (mput μ2 a (.lst (d :: ds))) .non) :
    EvX K W X μ ρ (tBM K "list" rInsert to (tCons (tC (.int 0)) (tCons te tNil))) Φ :=
  evx_bmL (h.imp fun μ1 o ⟨a, ds0, e1, h0, h1⟩ => ⟨a, ds0, e1, h0, evl_cons (evx_int (evl_cons (h1.imp fun μ2 d ⟨ds, hp, hz, hq⟩ => evl_nil ⟨ds, hp, fun H vs ws Q m q b d2 k => by
    obtain ⟨w0, w, e2, dw0, dw⟩ := denL2 d2
    unfold Den at dw0
    subst dw0 e2
    exact ⟨a, vs, 0, w, rfl, rfl, q, by rw [← b.length]; exact Nat.lt_of_le_of_lt hz (by decide), by decide, by decide, k _ _ _ _ hq (Grow.wr hp) (m.wr hp ⟨_, upd_same, DenL.cons (Den.grow (Grow.wr hp) _ _ dw) (DenL.grow (Grow.wr hp) _ _ b)⟩) (by unfold Den; rfl)⟩⟩)))⟩)
theorem denL_dropLast : ∀ {ds : List D} {vs : List V}, DenL K μ H ds vs → DenL K μ H ds.dropLast vs.dropLast
  | [], vs, h => by unfold DenL at h; subst h; exact DenL.nil
  | [d], vs, h => by
    obtain ⟨w, e, _⟩ := denL1 h
    subst e; exact DenL.nil
  | d :: d' :: ds, vs, h => by
    unfold DenL at h
    obtain ⟨w, ws, e, a, b⟩ := h
    have b' := b
    unfold DenL at b'
    obtain ⟨w', ws', e', _, _⟩ := b'
    subst e e'
    exact DenL.cons a (denL_dropLast b)
/-- xs.pop() -/
theorem evx_pop {to : TE} (h : EvX K W X μ ρ to fun μ1 o => ∃ a ds d, o = .at a ∧ μ1 a = some (.lst ds) ∧ ds.getLast? = some d ∧ Φ (mput μ1 a (.lst ds.dropLast)) d) : EvX K W X μ ρ (tBM0 K "list" rPop to) Φ :=
  evx_bmL0 (h.imp fun μ1 o ⟨a, ds, d, e1, hp, hl, hq⟩ => ⟨a, ds, e1, hp, fun H vs Q m q b k => by
    rw [List.getLast?_eq_getElem?] at hl
    obtain ⟨v, h1, h2⟩ := b.get hl
    refine ⟨a, vs, v, rfl, rfl, q, by rw [← b.length]; exact h1, k _ _ _ _ hq (Grow.wr hp) (m.wr hp ⟨_, upd_same, DenL.grow (Grow.wr hp) _ _ (denL_dropLast b)⟩) (Den.grow (Grow.wr hp) _ _ h2)⟩⟩)
/-! ### ifs whose test is a decision -/
theorem ifD {p A B : Prop} [Decidable p] (h1 : p → A) (h2 : ¬p → B) : if decide p = true then A else B := by
  by_cases h : p
  · rw [if_pos (decide_eq_true h)]; exact h1 h
  · rw [if_neg (by rw [decide_eq_false h]; decide)]; exact h2 h
theorem ifN {p A B : Prop} [Decidable p] (h1 : ¬p → A) (h2 : p → B) : if (!decide p) = true then A else B := by
  by_cases h : p
  · rw [if_neg (by rw [decide_eq_true h]; decide)]; exact h2 h
  · rw [if_pos (by rw [decide_eq_false h]; rfl)]; exact h1 h
theorem ifB {b : Bool} {A B : Prop} (h1 : b = true → A) (h2 : b = false → B) : if b = true then A else B := by
  cases b with
  | true => rw [if_pos rfl]; exact h1 rfl
  | false => rw [if_neg (by decide)]; exact h2 rfl
theorem ifY {b : Bool} {A B : Prop} (h : b = true) (h1 : A) : if b = true then A else B := by rw [if_pos h]; exact h1
theorem ifNo {b : Bool} {A B : Prop} (h : b = false) (h1 : B) : if b = true then A else B := by rw [if_neg (by rw [h]; decide)]; exact h1
end
/-- an own error's class: where it stands, what is said of it, its __init__ -/
structure ExcD (K : PySem.W.Frag) (mg : Str → Option Value) (x : Str) (C fI : Addr) : Prop where
  m : mg x = some (.ref C)
  k : ExcK K C
  i : PySem.W.findIn K (.ref C) "__init__" = some (some (.ref fI))
/-- the __init__ that all of them have -/
structure IniD (P : Program) (w : World) (K : PySem.W.Frag) (mg : Str → Option Value) (base : Heap) (fI : Addr) : Prop where
  ex : ∃ fd : FuncData, PySem.W.typeIn K (.ref fI) = some (.type "function") ∧ FnOk P w K mg base CX0 1 fI fd ["self", "value"] (spInit K "value") ∧ Binds K fd ["self", "value"] []
theorem ps_raiseD {X : Cx} {W : WX} {x : Str} {C fI : Addr} {j : Nat} {e : Expr} {es : List Expr} {ta : TA} {p pos pos2 : Pos} (hC : ExcD X.K X.mg x C fI) (hI : IniD X.prog X.w X.K X.mg X.base fI) (hr : Room j X.A) (hj : 2 ≤ j) (tk : Takes X W) (ha : PA X (e :: es) ta)
    (hc : X.calm = true := by rfl) (hg : Gl X x := by rfl) (hdb : (x == ("__debug__" : Str)) = false := by decide)
    (he : starEach (e :: es) X.env = (false, eval e X.env) :: starEach es X.env := by rfl) (hpl : (backTo pos (starEach es X.env)).any (·.1) = false := by rfl) : PS X (.Raise (some (.Call (.Name x p) (e :: es) [] pos)) none pos2) (tRaiseO C W (spInit X.K "value") ta) := by
  obtain ⟨fd, h1, h2, h3⟩ := hI.ex
  exact ps_raise hc tk (pmk_oex hC.k.ox hC.i h1 h2 (hr.mono hj) h3 .nil pass0 hg hC.m ha hdb he hpl)
/-- WorthError's __init__ keeps its promise -/
theorem ini_ok {P : Program} {w : World} {K : PySem.W.Frag} {mg : Str → Option Value} {base : Heap} {st : Stmt} {f : Addr} {fd : FuncData} (F : Fun K "__init__" "WorthError.__init__" st f fd) (S : FnScope ["self", "value"] ["self", "value"] (defScope st))
    (h : ∀ (cdv : Value) (A : Around) (outer : List Env) (s : Shared) (H : Hp) (E : XK), PSs (cxOf CX0 P w K mg base ["self", "value"] "WorthError.__init__" (defScope st) f cdv A outer s H E).nox (defBody st) (tSeq (tDrop (tVeI K (tCons (tVar 0) (tCons (tVar 1) tNil)))) (tOst K "value" (tVar 0) (tVar 1)))) :
    FnOk P w K mg base CX0 1 f fd ["self", "value"] (spInit K "value") := by
  refine F.ok S (fun vs H Q E h => ?_) fun cdv A outer s H vs Q E hr hs => ⟨_, h cdv A outer s H E, ?_⟩
  · obtain ⟨a, C, v, rfl, _⟩ := h
    rfl
  · obtain ⟨a, C, v, rfl, T, hn, ea, k⟩ := hs
    exact ⟨_, rfl, _, rfl, a, C, [v], rfl, (by show 1 ≤ 1000; decide), T, ea, _, rfl, _, rfl, a, C, rfl, T, hn, .inl ⟨ea, fun dx h1 h2 => k dx h1 h2⟩⟩
theorem gs_mid {K : PySem.W.Frag} {W : WX} {X : XD} {μ : Mu} {ρ : Ro} {E : ED} {t u : TS} (M : Mu → Ro → Prop) (h : GS K W X μ ρ t { E with nx := M }) (k : ∀ μ1 ρ1, M μ1 ρ1 → GS K W X μ1 ρ1 u E) : GS K W X μ ρ (tSeq t u) E :=
  gs_seq (h.imp k (fun _ _ z => z) (fun _ _ z => z) (fun _ _ z => z))
theorem opx_ixA {K : PySem.W.Frag} {μ : Mu} {a : Addr} {es : List D} {i : Int} {d : D} {Φ : DP} (h : μ a = some (.lst es)) (ha : atI es i = some d) (q : Φ μ d) : OpX K (rIx K) μ (.at a) (.int i) Φ := opx_ix (x := .at a) h ha q
theorem tgx_subA {K : PySem.W.Frag} {W : WX} {X : XD} {μ : Mu} {ρ : Ro} {to ti : TE} {d : D} {Φ : Mu → Ro → Prop} {a : Addr} {ds : List D} {k : Int} {j : Nat} (h1 : μ a = some (.lst ds)) (hj : ixN ds.length k = some j) (q : Φ (mput μ a (.lst (ds.set j d))) ρ) (ho : ∀ Ψ : DP, Ψ μ (.at a) → EvX K W X μ ρ to Ψ) (hi : ∀ Ψ : DP, Ψ μ (.int k) → EvX K W X μ ρ ti Ψ) : TgX K W X μ ρ (gSub to ti rSetL) d Φ :=
  tgx_sub (ho _ (hi _ ⟨a, ds, k, j, rfl, rfl, h1, hj, q⟩))
theorem see_at {μ : Mu} {a : Addr} {ds : List D} (h : μ a = some (.lst ds)) : seeD μ (.at a) = .lst ds := by
  unfold seeD
  dsimp only
  rw [h]
theorem isL_lst {μ : Mu} {ds : List D} : IsL μ (.lst ds) ds (fun _ => True) := .inl ⟨.inl rfl, rfl⟩
theorem isL_frz {μ : Mu} {ds : List D} : IsL μ (.frz ds) ds (fun _ => True) := .inl ⟨.inr rfl, rfl⟩
theorem isL_at {μ : Mu} {a : Addr} {ds : List D} (h : μ a = some (.lst ds)) : IsL μ (.at a) ds (fun μ' => μ' a = some (.lst ds)) := .inr ⟨a, rfl, h, rfl⟩
theorem gs_never {K : PySem.W.Frag} {W : WX} {X : XD} {μ : Mu} {ρ : Ro} {E : ED} (h : False) : GS K W X μ ρ tNever E := h.elim
/-! ### the laws' decks -/
/-- a deck at a, its great cells at g, at most c draws so far -/
structure DeckAt (a g : Addr) (c : Int) (μ : Mu) (gs : List Int) (o m k : Int) : Prop where
  ne : a ≠ g
  ha : μ a = some (.lst [.at g, .int o, .int m, .int k])
  hg : μ g = some (.lst (gs.map D.int))
  gs : ∀ x ∈ gs, 0 ≤ x ∧ x.natAbs < 2 ^ 1048577
  o0 : 0 ≤ o
  o1 : o.natAbs < 2 ^ 1048577
  m0 : 0 ≤ m
  m1 : m ≤ 1000000000000000003
  k0 : 0 ≤ k
  k1 : k ≤ c
def Deck (a g : Addr) (c : Int) (μ : Mu) : Prop := ∃ gs o m k, DeckAt a g c μ gs o m k
/-- all but a and g as it was -/
def But (a g : Addr) (μ μ' : Mu) : Prop := ∀ b, b ≠ a → b ≠ g → μ' b = μ b
theorem But.refl (a g : Addr) (μ : Mu) : But a g μ μ := fun _ _ _ => rfl
theorem But.trans {a g : Addr} {μ μ1 μ2 : Mu} (h : But a g μ μ1) (k : But a g μ1 μ2) : But a g μ μ2 := fun b h1 h2 => (k b h1 h2).trans (h b h1 h2)
theorem But.put1 {a g : Addr} {μ : Mu} {o : MO} : But a g μ (mput μ a o) := fun b h1 _ => mput_ne h1
theorem But.put2 {a g : Addr} {μ : Mu} {o : MO} : But a g μ (mput μ g o) := fun b _ h2 => mput_ne h2
theorem Deck.mono {a g : Addr} {c c' : Int} {μ : Mu} (h : Deck a g c μ) (hc : c ≤ c') : Deck a g c' μ := by
  obtain ⟨gs, o, m, k, d⟩ := h
  exact ⟨gs, o, m, k, d.ne, d.ha, d.hg, d.gs, d.o0, d.o1, d.m0, d.m1, d.k0, by have := d.k1; omega⟩
/-- something else changes -/
theorem Deck.but {a g p : Addr} {c : Int} {μ : Mu} {o : MO} (h : Deck a g c μ) (h1 : p ≠ a) (h2 : p ≠ g) : Deck a g c (mput μ p o) := by
  obtain ⟨gs, o, m, k, d⟩ := h
  exact ⟨gs, o, m, k, d.ne, by rw [mput_ne (Ne.symm h1)]; exact d.ha, by rw [mput_ne (Ne.symm h2)]; exact d.hg, d.gs, d.o0, d.o1, d.m0, d.m1, d.k0, d.k1⟩
theorem kit_NoneType_list : kitB "NoneType" "list" = some false := by decide +kernel
theorem kit_NoneType_tuple : kitB "NoneType" "tuple" = some false := by decide +kernel
theorem kit_NoneType_str : kitB "NoneType" "str" = some false := by decide +kernel
theorem kit_NoneType_bool : kitB "NoneType" "bool" = some false := by decide +kernel
theorem kit_NoneType_int : kitB "NoneType" "int" = some false := by decide +kernel
theorem kit_NoneType_dict : kitB "NoneType" "dict" = some false := by decide +kernel
theorem kit_bool_list : kitB "bool" "list" = some false := by decide +kernel
theorem kit_bool_tuple : kitB "bool" "tuple" = some false := by decide +kernel
theorem kit_bool_str : kitB "bool" "str" = some false := by decide +kernel
theorem kit_bool_bool : kitB "bool" "bool" = some true := by decide +kernel
theorem kit_bool_int : kitB "bool" "int" = some true := by decide +kernel
theorem kit_bool_dict : kitB "bool" "dict" = some false := by decide +kernel
theorem kit_int_list : kitB "int" "list" = some false := by decide +kernel
theorem kit_int_tuple : kitB "int" "tuple" = some false := by decide +kernel
theorem kit_int_str : kitB "int" "str" = some false := by decide +kernel
theorem kit_int_bool : kitB "int" "bool" = some false := by decide +kernel
theorem kit_int_int : kitB "int" "int" = some true := by decide +kernel
theorem kit_int_dict : kitB "int" "dict" = some false := by decide +kernel
theorem kit_str_list : kitB "str" "list" = some false := by decide +kernel
theorem kit_str_tuple : kitB "str" "tuple" = some false := by decide +kernel
theorem kit_str_str : kitB "str" "str" = some true := by decide +kernel
theorem kit_str_bool : kitB "str" "bool" = some false := by decide +kernel
theorem kit_str_int : kitB "str" "int" = some false := by decide +kernel
theorem kit_str_dict : kitB "str" "dict" = some false := by decide +kernel
theorem kit_tuple_list : kitB "tuple" "list" = some false := by decide +kernel
theorem kit_tuple_tuple : kitB "tuple" "tuple" = some true := by decide +kernel
theorem kit_tuple_str : kitB "tuple" "str" = some false := by decide +kernel
theorem kit_tuple_bool : kitB "tuple" "bool" = some false := by decide +kernel
theorem kit_tuple_int : kitB "tuple" "int" = some false := by decide +kernel
theorem kit_tuple_dict : kitB "tuple" "dict" = some false := by decide +kernel
theorem kit_list_list : kitB "list" "list" = some true := by decide +kernel
theorem kit_list_tuple : kitB "list" "tuple" = some false := by decide +kernel
theorem kit_list_str : kitB "list" "str" = some false := by decide +kernel
theorem kit_list_bool : kitB "list" "bool" = some false := by decide +kernel
theorem kit_list_int : kitB "list" "int" = some false := by decide +kernel
theorem kit_list_dict : kitB "list" "dict" = some false := by decide +kernel
theorem kit_dict_list : kitB "dict" "list" = some false := by decide +kernel
theorem kit_dict_tuple : kitB "dict" "tuple" = some false := by decide +kernel
theorem kit_dict_str : kitB "dict" "str" = some false := by decide +kernel
theorem kit_dict_bool : kitB "dict" "bool" = some false := by decide +kernel
theorem kit_dict_int : kitB "dict" "int" = some false := by decide +kernel
theorem kit_dict_dict : kitB "dict" "dict" = some true := by decide +kernel
theorem kits_NoneType_lt : kitBs "NoneType" ["list", "tuple"] = some false := by decide +kernel
theorem kits_bool_lt : kitBs "bool" ["list", "tuple"] = some false := by decide +kernel
theorem kits_int_lt : kitBs "int" ["list", "tuple"] = some false := by decide +kernel
theorem kits_str_lt : kitBs "str" ["list", "tuple"] = some false := by decide +kernel
theorem kits_tuple_lt : kitBs "tuple" ["list", "tuple"] = some true := by decide +kernel
theorem kits_list_lt : kitBs "list" ["list", "tuple"] = some true := by decide +kernel
theorem kits_dict_lt : kitBs "dict" ["list", "tuple"] = some false := by decide +kernel
/-- nobody may call it so: a promise of nothing -/
theorem cal_false {P : Program} {w : World} {K : PySem.W.Frag} {mg : Str → Option Value} {base : Heap} {x : Str} {st : Stmt} {ps : List Str} {n : Nat} (h : Std K mg x st)
    (hbi : ∀ (kV doc pm : Value) (an : Option Addr) (cdv ct : Value) (us : List Value), us.length = ps.length → bindArgs (PySem.W.fnOf x x (defArgs st) (defBody st) (defScope st) .none kV doc pm an cdv ct) ⟨us, []⟩ = pure (ps.zip us)) :
    Cal P w K mg base CX0 0 x st ps (spD K n (fun _ _ _ _ => False)) := by
  obtain ⟨f, fd, h1, F⟩ := h
  exact ⟨f, fd, h1, F, ⟨fun vs H Q E ⟨_, _, _, _, _, _, _, z, _⟩ => z.elim, fun A outer s H args us vs Q E hr he hb hv ⟨_, _, _, _, _, _, _, z, _⟩ => z.elim⟩, F.binds hbi⟩
/-- plain data, at most n deep -/
def alD : Nat → D → Bool
  | _, .non => true
  | _, .bl _ => true
  | _, .int _ => true
  | _, .str _ => true
  | n + 1, .tup ds => ds.all (alD n) && decide (ds.length ≤ 1000000)
  | n + 1, .lst ds => ds.all (alD n) && decide (ds.length ≤ 1000000)
  | _, _ => false
/-- the laws' comparison: of what is the same -/
def P_alike : Nat → PD
  | 0 => fun _ _ _ _ => False
  | n + 1 => fun μ ds post _ => ∃ d, ds = [d, d] ∧ alD n d = true ∧ post μ (.bl true)
theorem gs_neverH {K : PySem.W.Frag} {W : WX} {X : XD} {μ : Mu} {ρ : Ro} {E : ED} {t : TS} (h : False) : GS K W X μ ρ t E := h.elim
theorem pairs_same {ds : List D} {i : Nat} {d : D} (h : (pairsD ds ds)[i]? = some d) : ∃ x, x ∈ ds ∧ d = .tup [x, x] := by
  obtain ⟨x, y, h1, h2, e⟩ := pairsD_get h
  rw [h1] at h2
  cases h2
  exact ⟨x, List.mem_of_getElem? h1, e⟩
theorem denL_ints {K : PySem.W.Frag} {μ : Mu} {H : Hp} : ∀ ns : List Int, DenL K μ H (ns.map D.int) (ns.map V.int)
  | [] => DenL.nil
  | n :: ns => DenL.cons (by unfold Den; rfl) (denL_ints ns)
theorem bits_lt {z : Int} (h : Builtin.Int.intBits z ≤ 1048576) : z.natAbs < 2 ^ 1048576 := by
  unfold Builtin.Int.intBits at h
  split at h
  · rename_i h0
    have : z.natAbs = 0 := by simpa using h0
    rw [this]
    exact Nat.two_pow_pos _
  · rename_i h0
    have h1 : z.natAbs ≠ 0 := by simpa using h0
    exact (Nat.log2_lt h1).mp (by omega)
/-- a law's promise, from its P at the script -/
theorem sp_start {K : PySem.W.Frag} {P : PD} (h : ∀ ns : List Int, ns.length ≤ 63 → (∀ n ∈ ns, n.natAbs < 2 ^ 1048576) → P (fun _ => none) [.frz (ns.map D.int)] (fun _ d => d = .bl true) excN)
    (H : Hp) (a : Addr) (ns : List Int) (hl : ns.length ≤ 63) (hb : ∀ z ∈ ns, Builtin.Int.intBits z ≤ 1048576) (hO : Only H) (hs : SqL K H a (ns.map V.int)) : spD K 1 P [.ref a] H (fun v _ => v = .bl true) fun _ _ _ => False := by
  refine ⟨fun _ => none, [.frz (ns.map D.int)], (fun _ d => d = .bl true), excN, ?_, ?_, rfl, h ns hl (fun n hn => bits_lt (hb n hn)), ?_, ?_⟩
  · intro b o e
    cases e
  · refine DenL.cons ?_ DenL.nil
    unfold Den
    refine ⟨a, _, rfl, ?_, denL_ints ns⟩
    rcases hs with hs | hs
    · exact .inl ⟨rfl, hs⟩
    · exact .inr hs
  · intro μ' d v H' hd _ _ dv
    have hd' : d = .bl true := hd
    subst hd'
    unfold Den at dv
    exact dv
  · intro μ' C d dx v H' z
    exact z.elim
theorem cal_at {P : Program} {w : World} {K : PySem.W.Frag} {mg : Str → Option Value} {base : Heap} {CX : CXT} {k : Nat} {x : Str} {st : Stmt} {ps : List Str} {sp : Sp} {f : Addr} {fd : FuncData} (c : Cal P w K mg base CX k x st ps sp) (hm : mg x = some (.ref f)) (F : Fun K x x st f fd) : FnOk P w K mg base CX k f fd ps sp := by
  obtain ⟨f', fd', h1, F', G, _⟩ := c.ex
  rw [hm] at h1
  cases h1
  obtain ⟨_, _, _, _, _, _, _, _, _, _, l1, _⟩ := F.ex
  obtain ⟨_, _, _, _, _, _, _, _, _, _, l2, _⟩ := F'.ex
  rw [l1] at l2
  have := Option.some.inj l2
  cases this
  exact G
/-- f(k = v, ..) whose errors are wished for at the caller's slots -/
def tCallKS (sp : Sp) (gV : List V → List V → List V) (E : L2.St → XK) (tk : TA) : TE := fun σ H Q => tk σ H fun zs H2 => sp (gV [] zs) H2 Q (E σ)
section
variable {X : Cx} {CX : CXT} {k j : Nat} {f : Addr} {fd : FuncData} {ps ks : List Str} {sp : Sp} {x : Str} {p pos : Pos} {kws : List Keyword} {tk : TA} {g : List Value → List Value → List Value} {gV : List V → List V → List V} {st : Stmt} {n m : Nat} {pm : List Nat} {E : L2.St → XK}
theorem pe_callK0S (F : FnOk X.prog X.w X.K X.mg X.base CX k f fd ps sp) (hr : Room k X.A) (hg : Gl X x) (hm : X.mg x = some (.ref f)) (hk : PySem.W.keepIn X.K (.ref f) = true) (hb : KBinds X.K fd ps ks g gV) (hx : ∀ σ, PassesAt CX X σ (E σ))
    (hkw : PK X kws tk) (hall : (backToKw pos (keywordEach kws X.env)).all (·.1.isSome) = true := by rfl) (hks : (backToKw pos (keywordEach kws X.env)).filterMap (·.1) = ks := by rfl)
    (hdb : (x == ("__debug__" : Str)) = false := by decide) (hn : ((backTo pos (starEach [] X.env)).any (·.1) || (backToKw pos (keywordEach kws X.env)).any (·.1.isNone)) = false := by rfl) :
    PE X (.Call (.Name x p) [] kws pos) (tCallKS sp gV E tk) := by
  constructor
  intro pins s σ H Q I h
  apply wpAny_Call_Name_kw (ld_glob I hg hm ?_ hdb)
  refine PySem.W.callWith_KW0 (h₀ := X.base) I.ok.mod.kin hk hall ?_ hn
  refine thn (hkw.run pos pins s σ H _ I h) fun ws s2 hh => ?_
  obtain ⟨zs, H2, I2, rz, q2⟩ := hh
  refine ⟨I2.kIn, ?_⟩
  rw [hks]
  have r2 := hb.rel (vs := []) (us := []) .nil rz
  have hl : (g [] ws).length = ps.length := r2.length.symm.trans (F.len _ _ _ _ q2)
  refine wpAny_call (codeAny_mono (F.run X.A X.stack s2 H2 ⟨[], ks.zip ws⟩ (g [] ws) (gV [] zs) Q (E σ) hr I2.env0 (hb.to s2 [] ws I2.kIn hl) r2 q2) fun r s' hq => ?_)
  rcases r with e | (_ | _ | _ | u)
  · exact hx σ pins H2 s2 e s' I2 hq
  · exact False.elim hq
  · exact False.elim hq
  · exact False.elim hq
  · exact I2.after hq
theorem pe_ckS {W : WX} (c : Cal X.prog X.w X.K X.mg X.base (L2.CX X.prog X.w) k x st ps sp) (hr : Room j X.A) (hj : k ≤ j) (hp : ps ≠ []) (tw : Takes X W)
    (h : ∀ (kV doc pv : Value) (an : Option Addr) (cdv ct : Value) (us ws : List Value), us.length = n → ws.length = m → bindArgs (PySem.W.fnOf x x (defArgs st) (defBody st) (defScope st) .none kV doc pv an cdv ct) ⟨us, ks.zip ws⟩ = pure (ps.zip (pm.filterMap fun i => (us ++ ws)[i]?)))
    (hkw : PK X kws tk) (hg : Gl X x := by rfl) (hall : (backToKw pos (keywordEach kws X.env)).all (·.1.isSome) = true := by rfl) (hks : (backToKw pos (keywordEach kws X.env)).filterMap (·.1) = ks := by rfl)
    (hdb : (x == ("__debug__" : Str)) = false := by decide) (hn : ((backTo pos (starEach [] X.env)).any (·.1) || (backToKw pos (keywordEach kws X.env)).any (·.1.isNone)) = false := by rfl) :
    PE X (.Call (.Name x p) [] kws pos) (tCallKS sp (permG n m pm) (WE W) tk) := by
  obtain ⟨f, fd, h1, F, G, b⟩ := c.ex
  exact pe_callK0S G (hr.mono hj) hg h1 F.kp (kb_of F hp h) (fun σ => passAt tw σ) hkw hall hks hdb hn
end
theorem evx_ckS {K : PySem.W.Frag} {W : WX} {X : XD} {μ : Mu} {ρ : Ro} {Φ : DP} {n a b : Nat} {pm : List Nat} {P : PD} {tk : TA} (h : EvL K W X μ ρ tk fun μ2 es => (permG a b pm [] es).length = n ∧ P μ2 (permG a b pm [] es) Φ fun μ' C d => X μ' ρ C d) :
    EvX K W X μ ρ (tCallKS (spD K n P) (permG a b pm) (WE W) tk) Φ := fun σ H Q m e l k =>
  h σ H _ m e l fun μ1 ds vs H1 ⟨hl, hp⟩ g1 m1 d1 => ⟨μ1, _, Φ, _, m1, permG_den DenL.nil d1, hl, hp, fun μ' d v H' p g => k μ' d v H' p (g1.trans g), fun μ' C d dx v H' p g mm => l μ' ρ C d dx v σ H' p (g1.trans g) mm ((e.grow g1).grow g)⟩
/-! ### slices -/
def EvO (K : PySem.W.Frag) (W : WX) (X : XD) (μ : Mu) (ρ : Ro) (t : TO) (Φ : Mu → Option Int → Prop) : Prop := ∀ (σ : L2.St) (H : Hp) (Q : Option Int → Hp → Prop), Mem K μ H → EnvIs K μ H ρ σ → LiftX K μ H X W → (∀ μ' o H', Φ μ' o → Grow μ H μ' H' → Mem K μ' H' → Q o H') → t σ H Q
def SlX (K : PySem.W.Frag) (r : V → Option Int → Option Int → Hp → VK → Prop) (μ : Mu) (x : D) (l u : Option Int) (Φ : DP) : Prop := ∀ (H : Hp) (v : V) (Q : VK), Mem K μ H → Den K μ H x v → (∀ μ' d w H', Φ μ' d → Grow μ H μ' H' → Mem K μ' H' → Den K μ' H' d w → Q w H') → r v l u H Q
section
variable {K : PySem.W.Frag} {W : WX} {X : XD} {μ : Mu} {ρ : Ro} {Φ : DP} {te : TE} {tl th : TO}
theorem evo_none {Φ : Mu → Option Int → Prop} (h : Φ μ none) : EvO K W X μ ρ tNoPart Φ := fun σ H Q m e l k => k μ none H h (Grow.refl _ _) m
theorem evo_part {Φ : Mu → Option Int → Prop} (h : EvX K W X μ ρ te fun μ1 d => ∃ i, d = .int i ∧ Φ μ1 (some i)) : EvO K W X μ ρ (tPart te) Φ := fun σ H Q m e l k =>
  h σ H _ m e l fun μ1 d v H1 ⟨i, hd, hp⟩ g1 m1 d1 => ⟨i, by subst hd; unfold Den at d1; exact d1, k μ1 _ H1 hp g1 m1⟩
theorem evx_sl {r : V → Option Int → Option Int → Hp → VK → Prop} (h : EvX K W X μ ρ te fun μ1 x => EvO K W X μ1 ρ tl fun μ2 l => EvO K W X μ2 ρ th fun μ3 u => SlX K r μ3 x l u Φ) : EvX K W X μ ρ (L2.tSl r te tl th) Φ := fun σ H Q m e l k =>
  h σ H _ m e l fun μ1 x v H1 h1 g1 m1 d1 => h1 σ H1 _ m1 (e.grow g1) (l.grow g1) fun μ2 o1 H2 h2 g2 m2 => h2 σ H2 _ m2 ((e.grow g1).grow g2) ((l.grow g1).grow g2) fun μ3 o2 H3 h3 g3 m3 =>
    h3 H3 v Q m3 (Den.grow g3 _ _ (Den.grow g2 _ _ d1)) fun μ' d w H' p g => k μ' d w H' p (((g1.trans g2).trans g3).trans g)
theorem slx_S {z : Str} {lo hi : Option Int} (hz : z.length ≤ 1000000) (h : Φ μ (.str (cutS z lo hi))) : SlX K rSlS μ (.str z) lo hi Φ := fun H v Q m d k => by
  unfold Den at d
  exact ⟨z, d, Nat.le_trans hz (by decide), k μ _ _ H h (Grow.refl _ _) m (by unfold Den; rfl)⟩
end
/-- the same inside a try -/
theorem op_eqTr {X : Cx} {pn : List (Addr × Obj)} {xe : Value → Shared → Prop} (hu : X.A.units + 64 < cLine) : OpR (X.tr pn xe) (compareOp .Eq) (rEqU X.K) := op_eqU (X := X.tr pn xe) hu
theorem op_neTr {X : Cx} {pn : List (Addr × Obj)} {xe : Value → Shared → Prop} (hu : X.A.units + 64 < cLine) : OpR (X.tr pn xe) (compareOp .NotEq) (rNeU X.K) := op_neU (X := X.tr pn xe) hu
/-- list(a tuple): a fresh list that will change -/
theorem cax_listM {K : PySem.W.Frag} {μ : Mu} {es : List D} {Φ : DP} (h : ∀ p, μ p = none → Φ (mput μ p (.lst es)) (.at p)) :
    CaX K (fun xs H Q => ∃ p ys, xs = [.ref p] ∧ (SqL K H p ys ∨ SqT K H p ys) ∧ ∀ l, H l = none → Q (.ref l) (upd H l (.lst ys))) μ [.tup es] Φ := fun H vs Q m d k => by
  obtain ⟨v, e, a⟩ := denL1 d
  unfold Den at a
  obtain ⟨p, us, e2, s, b⟩ := a
  subst e2
  exact ⟨p, us, e, .inr s.sq, fun l hl => k _ _ _ _ (h l (m.free hl)) (Grow.newM hl) (m.newM hl ⟨us, upd_same, DenL.grow (Grow.newM hl) _ _ b⟩) (by unfold Den; rfl)⟩
local macro_rules | `(tactic| walk_at "d1") => `(tactic| first
  | with_reducible refine gs_seq ?_
  | with_reducible refine gs_asg ?_
  | with_reducible refine gs_if ?_
  | with_reducible refine gs_ret ?_
  | with_reducible refine gs_drop ?_
  | with_reducible refine gs_next ?_
  | with_reducible refine gs_par ?_
  | with_reducible refine gs_retN ?_
  | ((with_reducible refine evx_var (d := ?dd) ?hh ?_); (case hh => exact rfl))
  | with_reducible refine evx_int ?_
  | with_reducible refine evx_str ?_
  | with_reducible refine evx_bl ?_
  | with_reducible refine evx_non ?_
  | with_reducible refine evx_ty ?_
  | with_reducible refine evx_at ?_
  | with_reducible refine evx_op ?_
  | with_reducible refine evx_un ?_
  | ((with_reducible refine evx_isT (cs := ["list", "tuple"]) ?hr ?hc ?_); (case hr => exact fun μ1 Ψ q => evl_cons (evx_ty (evl_cons (evx_ty (evl_nil q))))); (case hc => decide))
  | ((fail_if_success (with_reducible show EvX _ _ _ _ _ (tCB _ (tCons _ (tCons (tTup _) tNil))) _)); (with_reducible refine evx_cb ?_))
  | with_reducible refine evl_cons ?_
  | with_reducible refine evl_nil ?_
  | with_reducible refine evx_tup ?_
  | with_reducible refine evx_if ?_
  | with_reducible refine evb_test ?_
  | with_reducible refine evb_B ?_
  | with_reducible refine evb_and ?_
  | with_reducible refine evb_or ?_
  | with_reducible refine evb_not ?_
  | with_reducible refine evx_andV ?_
  | with_reducible refine evx_orV ?_
  | with_reducible refine evx_notV ?_
  | with_reducible refine evx_isN ?_
  | with_reducible refine evx_notN ?_
  | with_reducible refine evx_xv ?_
  | with_reducible refine evx_call ?_
  | with_reducible refine evx_callS ?_
  | with_reducible refine evx_ck ?_
  | with_reducible refine tgx_name ?_
  | ((with_reducible refine tgx_tup ?_ ?_); exact rfl)
  | with_reducible refine tgsx_cons ?_
  | with_reducible refine tgsx_nil ?_
  | with_reducible refine gs_break ?_
  | with_reducible refine gs_cont ?_
  | walk_at "dop")
local macro_rules | `(tactic| walk_at "dl") => `(tactic| refine ⟨Nat.le_of_ble_eq_true rfl, ?_⟩)
local macro_rules | `(tactic| walk_at "dop") => `(tactic| first
  | with_reducible refine opx_i0 ?_
  | with_reducible refine opx_b0 ?_
  | with_reducible refine opx_l (opx_i0 ?_)
  | with_reducible refine opx_l (opx_eqI ?_)
  | with_reducible refine opx_l (opx_neI ?_)
  | with_reducible refine opx_l (opx_eqS ?_)
  | with_reducible refine opx_l (opx_neS ?_)
  | with_reducible refine opx_l (opx_eqB ?_)
  | with_reducible refine opx_l (opx_neB ?_)
  | ((with_reducible refine opx_i ?_ ?_); walk_at "ds")
  | ((with_reducible refine opx_l (opx_i ?_ ?_)); walk_at "ds")
  | with_reducible refine unx_i ?_
  | ((with_reducible refine cax_is (T := ?tt) (b := ?bb) ?ht ?hk ?_); (case ht => exact rfl); (case hk => walk_at "dty"))
  | ((refine cax_len (n := ?nn) ?hx ?_); (case hx => exact rfl))
  | with_reducible refine cax_abs ?_
  | with_reducible refine cax_int ?_
  | with_reducible refine cax_gcd ?_
  | with_reducible refine cax_max2 ?_
  | with_reducible refine cax_min2 ?_
  | ((with_reducible show OpX _ (rIx _) _ (D.at _) _ _); (refine opx_ixA (es := ?ee) (d := ?dd) ?h1 ?h2 ?_); (case h1 => first | assumption | exact mput_same); (case h2 => exact rfl))
  | ((with_reducible show OpX _ (rIx _) _ _ _ _); (refine opx_ix (es := ?ee) (d := ?dd) ?h1 ?h2 ?_); (case h1 => first | exact rfl | assumption); (case h2 => first | exact rfl | assumption))
  | (refine ⟨Nat.le_of_ble_eq_true rfl, ?_⟩)
  | with_reducible refine ⟨_, rfl, ?_⟩
  | ((refine ⟨?tt, ?bb, ?ht, ?hk, ?_⟩); (case ht => exact rfl); (case hk => walk_at "dtys"))
  | with_reducible refine ⟨_, _, rfl, ?_⟩
  | (refine ⟨rfl, ?_⟩))
/-- a side condition: known, or plain arithmetic -/
local macro_rules | `(tactic| walk_at "ds") => `(tactic| first | assumption | exact ⟨by decide, by decide⟩ | (exact by decide) | omega)
local macro_rules | `(tactic| walk_at "dix") => `(tactic| first | (exact rfl; exact rfl) | (first | assumption | exact rfl); (first | assumption | exact rfl))
local macro_rules | `(tactic| walk_at "dx") => `(tactic| ((repeat (walk_at "d1")); try dsimp only))
local macro_rules | `(tactic| walk_at "d0") => `(tactic| dsimp only [cxOf, Cx.nox, Cx.wish, Cx.tr, Cx.suite])
local macro_rules | `(tactic| walk_at "dty") => `(tactic| first | exact kit_int_int | exact kit_int_bool | exact kit_int_str | exact kit_int_list | exact kit_int_tuple | exact kit_bool_bool | exact kit_bool_int | exact kit_bool_str | exact kit_str_str | exact kit_tuple_tuple | exact kit_tuple_list | exact kit_list_list | exact kit_list_tuple | exact kit_NoneType_int | exact kit_NoneType_bool | exact kit_NoneType_str | exact kit_NoneType_list | exact kit_tuple_str | exact kit_list_str | exact kit_str_bool | exact kit_str_int | exact kit_str_list | exact kit_str_tuple | exact kit_bool_list | exact kit_bool_tuple)
local macro_rules | `(tactic| walk_at "dtys") => `(tactic| first | exact kits_int_lt | exact kits_bool_lt | exact kits_str_lt | exact kits_tuple_lt | exact kits_list_lt | exact kits_NoneType_lt)
local macro_rules | `(tactic| walk_at "dz") => `(tactic| ((walk_at "dx"); (repeat ((first | refine ifY rfl ?_ | refine ifNo rfl ?_); walk_at "dx"))))
def top (i : Nat) : Stmt := PySem.Challenge.pw_textworths_k02_sums_products_quotients_p.main.body.getD i (.Pass ⟨0, 0, 0, 0⟩)
abbrev s_WorthError___init__ : Stmt := inClass (top 2) 0
theorem sc_WorthError___init__ : FnScope ["self", "value"] ["self", "value"] (defScope s_WorthError___init__) := ⟨rfl, rfl, rfl, by decide +kernel, rfl, by decide +kernel, by decide +kernel⟩
abbrev s_lowest : Stmt := top 9
theorem sc_lowest : FnScope ["above", "below", "common"] ["above", "below"] (defScope s_lowest) := ⟨rfl, rfl, rfl, by decide +kernel, rfl, by decide +kernel, by decide +kernel⟩
abbrev s_is_number : Stmt := top 10
theorem sc_is_number : FnScope ["value", "above", "below"] ["value"] (defScope s_is_number) := ⟨rfl, rfl, rfl, by decide +kernel, rfl, by decide +kernel, by decide +kernel⟩
abbrev s_checked : Stmt := top 11
theorem sc_checked : FnScope ["value"] ["value"] (defScope s_checked) := ⟨rfl, rfl, rfl, by decide +kernel, rfl, by decide +kernel, by decide +kernel⟩
abbrev s_sum_of : Stmt := top 12
theorem sc_sum_of : FnScope ["one", "other"] ["one", "other"] (defScope s_sum_of) := ⟨rfl, rfl, rfl, by decide +kernel, rfl, by decide +kernel, by decide +kernel⟩
abbrev s_product_of : Stmt := top 13
theorem sc_product_of : FnScope ["one", "other"] ["one", "other"] (defScope s_product_of) := ⟨rfl, rfl, rfl, by decide +kernel, rfl, by decide +kernel, by decide +kernel⟩
abbrev s_added : Stmt := top 14
theorem sc_added : FnScope ["one", "other"] ["one", "other"] (defScope s_added) := ⟨rfl, rfl, rfl, by decide +kernel, rfl, by decide +kernel, by decide +kernel⟩
abbrev s_product : Stmt := top 15
theorem sc_product : FnScope ["one", "other"] ["one", "other"] (defScope s_product) := ⟨rfl, rfl, rfl, by decide +kernel, rfl, by decide +kernel, by decide +kernel⟩
abbrev s_quotient : Stmt := top 16
theorem sc_quotient : FnScope ["one", "other"] ["one", "other"] (defScope s_quotient) := ⟨rfl, rfl, rfl, by decide +kernel, rfl, by decide +kernel, by decide +kernel⟩
abbrev s_power : Stmt := top 17
theorem sc_power : FnScope ["one", "times", "found", "_"] ["one", "times"] (defScope s_power) := ⟨rfl, rfl, rfl, by decide +kernel, rfl, by decide +kernel, by decide +kernel⟩
abbrev s__law_deck : Stmt := top 19
theorem sc__law_deck : FnScope ["_law_script", "_law_mark", "_law_great", "_law_cell"] ["_law_script"] (defScope s__law_deck) := ⟨rfl, rfl, rfl, by decide +kernel, rfl, by decide +kernel, by decide +kernel⟩
abbrev s__law_draw : Stmt := top 20
theorem sc__law_draw : FnScope ["_law_deck_here", "_law_limit", "_law_found", "_law_stir"] ["_law_deck_here", "_law_limit"] (defScope s__law_draw) := ⟨rfl, rfl, rfl, by decide +kernel, rfl, by decide +kernel, by decide +kernel⟩
abbrev s__law_gcd : Stmt := top 21
theorem sc__law_gcd : FnScope ["_law_one", "_law_other"] ["_law_one", "_law_other"] (defScope s__law_gcd) := ⟨rfl, rfl, rfl, by decide +kernel, rfl, by decide +kernel, by decide +kernel⟩
abbrev s__law_pair : Stmt := top 22
theorem sc__law_pair : FnScope ["_law_above", "_law_below", "_law_common"] ["_law_above", "_law_below"] (defScope s__law_pair) := ⟨rfl, rfl, rfl, by decide +kernel, rfl, by decide +kernel, by decide +kernel⟩
abbrev s__law_alike : Stmt := top 23
theorem sc__law_alike : FnScope ["_law_found", "_law_due_here", "_law_one", "_law_other"] ["_law_found", "_law_due_here"] (defScope s__law_alike) := ⟨rfl, rfl, rfl, by decide +kernel, rfl, by decide +kernel, by decide +kernel⟩
abbrev s__law_number : Stmt := top 24
theorem sc__law_number : FnScope ["_law_deck_here", "_law_great", "_law_below"] ["_law_deck_here"] (defScope s__law_number) := ⟨rfl, rfl, rfl, by decide +kernel, rfl, by decide +kernel, by decide +kernel⟩
abbrev s__law_two : Stmt := top 25
theorem sc__law_two : FnScope ["_law_deck_here", "_law_one", "_law_other", "_law_kind"] ["_law_deck_here"] (defScope s__law_two) := ⟨rfl, rfl, rfl, by decide +kernel, rfl, by decide +kernel, by decide +kernel⟩
abbrev s__law_wrong : Stmt := top 26
theorem sc__law_wrong : FnScope ["_law_deck_here", "_law_one", "_law_kind", "_law_factor"] ["_law_deck_here", "_law_one"] (defScope s__law_wrong) := ⟨rfl, rfl, rfl, by decide +kernel, rfl, by decide +kernel, by decide +kernel⟩
abbrev s__law_is_number : Stmt := top 27
theorem sc__law_is_number : FnScope ["_law_one"] ["_law_one"] (defScope s__law_is_number) := ⟨rfl, rfl, rfl, by decide +kernel, rfl, by decide +kernel, by decide +kernel⟩
abbrev s__law_told : Stmt := top 28
theorem sc__law_told : FnScope ["_law_name", "_law_one", "_law_other", "_law_found", "_law_caught", "e"] ["_law_name", "_law_one", "_law_other"] (defScope s__law_told) := ⟨rfl, rfl, rfl, by decide +kernel, rfl, by decide +kernel, by decide +kernel⟩
abbrev s__law_due : Stmt := top 29
theorem sc__law_due : FnScope ["_law_name", "_law_one", "_law_other", "_law_found", "_law_k", "_law_total", "_law_times"] ["_law_name", "_law_one", "_law_other"] (defScope s__law_due) := ⟨rfl, rfl, rfl, by decide +kernel, rfl, by decide +kernel, by decide +kernel⟩
abbrev s_law : Stmt := top 30
theorem sc_law : FnScope ["_law_script", "_law_deck_here", "_law_k", "_law_good", "_law_bent", "_law_place", "_law_times", "_law_one", "_law_other", "_law_name", "_law_many"] ["_law_script"] (defScope s_law) := ⟨rfl, rfl, rfl, by decide +kernel, rfl, by decide +kernel, by decide +kernel⟩
/-- the number of two ints -/
def lowC (a b : Int) : Int := if b < 0 then -((Nat.gcd a.natAbs b.natAbs : Nat) : Int) else ((Nat.gcd a.natAbs b.natAbs : Nat) : Int)
def lowD (a b : Int) : D := .tup [.int (a.fdiv (lowC a b)), .int (b.fdiv (lowC a b))]
def P_lowest : PD := fun μ ds post _ => ∃ a b : Int, ds = [.int a, .int b] ∧ b ≠ 0 ∧ b.natAbs < 2 ^ 9000 ∧ post μ (lowD a b)
section
variable {P : Program} {w : World} {K : PySem.W.Frag} {mg : Str → Option Value} {base : Heap}
theorem lowC_ok {a b : Int} (h : b ≠ 0) (hb : b.natAbs < 2 ^ 9000) : CDivB a (lowC a b) := by
  have h0 : 0 < Nat.gcd a.natAbs b.natAbs := Nat.gcd_pos_of_pos_right _ (by omega)
  have h1 : Nat.gcd a.natAbs b.natAbs ≤ b.natAbs := Nat.gcd_le_right _ (by omega)
  unfold CDivB lowC
  split <;> refine ⟨by omega, by omega⟩
theorem c_lowest (h : Std K mg "lowest" s_lowest) (m_gcd : mg "gcd" = some (.builtin "math.gcd")) : Cal P w K mg base CX0 1 "lowest" s_lowest ["above", "below"] (spD K 2 P_lowest) := by
  refine cal0 h sc_lowest (fun _ _ _ _ _ _ us hl => match us, hl with | [_, _], _ => rfl) fun f cdv A outer s H E hr => ⟨_,
    (pss_cons (ps_set (i := 2) sc_lowest.nd rfl (Or.inl rfl) (pe_callBfun cr_gcd (by rfl) m_gcd (pa_cons (pv 0) (pa_cons (pv 1) pa_nil))))
 (pss_cons (ps_if (pt_cmpR op_lt (pv 1) pe_int (nomark _))
 (pss_one (ps_set (i := 2) sc_lowest.nd rfl (Or.inl rfl) (pe_un un_neg (pv 2))))
 pss_nil)
 (pss_one (ps_ret (pe_tup (pa_cons (pe_op op_divB (pv 0) (pv 2)) (pa_cons (pe_op op_divB (pv 1) (pv 2)) pa_nil))))))), fun μ ds post exc hl hP => ?_⟩
  obtain ⟨a, b, rfl, h0, hb, hp⟩ := hP
  have hd := lowC_ok (a := a) h0 hb
  have hd2 : CDivB b (lowC a b) := hd
  unfold lowD lowC at *
  walk_at "dx"
  refine ifD (fun hn => ?_) (fun hn => ?_)
  · rw [if_pos hn] at hd hd2 hp
    walk_at "dx"
    exact hp
  · rw [if_neg hn] at hd hd2 hp
    walk_at "dx"
    exact hp
end
def P_gcd : PD := fun μ ds post _ => ∃ a b : Int, ds = [.int a, .int b] ∧ post μ (.int (Nat.gcd a.natAbs b.natAbs : Nat))
section
variable {P : Program} {w : World} {K : PySem.W.Frag} {mg : Str → Option Value} {base : Heap}
theorem abs_if (a : Int) : (if a < 0 then -a else a) = (a.natAbs : Int) := by split <;> omega
theorem c_gcd (h : Std K mg "_law_gcd" s__law_gcd) (n_abs : mg "abs" = none) (n_int : mg "int" = none) : Cal P w K mg base CX0 1 "_law_gcd" s__law_gcd ["_law_one", "_law_other"] (spD K 2 P_gcd) := by
  refine cal0 h sc__law_gcd (fun _ _ _ _ _ _ us hl => match us, hl with | [_, _], _ => rfl) fun f cdv A outer s H E hr => ⟨_,
    have hu64 := hr.units; (pss_cons (ps_par (i := 0) (j := 1) rfl sc__law_gcd.nd rfl rfl (by decide) rfl rfl (pa_cons (pe_callB call_abs (by rfl) n_abs (by decide +kernel) (pa_cons (pv 0) pa_nil)) (pa_cons (pe_callB call_abs (by rfl) n_abs (by decide +kernel) (pa_cons (pv 1) pa_nil)) pa_nil)) (by rfl))
 (pss_cons (ps_while PassesOwn.never (pt_cmpR (op_neU hu64) (pv 1) pe_int (nomark _))
 (pss_one (ps_par (i := 0) (j := 1) rfl sc__law_gcd.nd rfl rfl (by decide) rfl rfl (pa_cons (pv 1) (pa_cons (pe_op op_modN (pe_callTy call_int1 (by rfl) n_int (by decide +kernel) (pa_cons (pv 0) pa_nil)) (pv 1)) pa_nil)) (by rfl))))
 (pss_one (ps_ret (pv 0))))), fun μ ds post exc hl hP => ?_⟩
  obtain ⟨a, b, rfl, hp⟩ := hP
  walk_at "dx"
  rw [abs_if, abs_if]
  refine (gs_while (fun m μ' ρ' => ∃ x : Nat, μ' = μ ∧ ρ' = [some (.int x), some (.int m)] ∧ Nat.gcd x m = Nat.gcd a.natAbs b.natAbs) b.natAbs ⟨a.natAbs, rfl, rfl, rfl⟩ ?_)
  rintro y μ' ρ' ⟨x, rfl, rfl, hg⟩
  walk_at "dx"
  refine ifN (fun hn => ?_) (fun hn => ?_)
  · have hy : (y : Int) ≠ 0 := hn
    walk_at "dx"
    refine ⟨x % y, Nat.mod_lt _ (by omega), y, rfl, ?_, ?_⟩
    · rw [Int.fmod_eq_emod_of_nonneg _ (by omega)]
      rfl
    · rw [← hg, Nat.gcd_comm y, ← Nat.gcd_rec, Nat.gcd_comm]
  · walk_at "dx"
    have : y = 0 := by omega
    subst this
    rw [Nat.gcd_zero_right] at hg
    rw [hg]
    exact hp
theorem c_pair (h : Std K mg "_law_pair" s__law_pair) (C__law_gcd : Cal P w K mg base CX0 1 "_law_gcd" s__law_gcd ["_law_one", "_law_other"] (spD K 2 P_gcd)) : Cal P w K mg base CX0 2 "_law_pair" s__law_pair ["_law_above", "_law_below"] (spD K 2 P_lowest) := by
  refine cal0 h sc__law_pair (fun _ _ _ _ _ _ us hl => match us, hl with | [_, _], _ => rfl) fun f cdv A outer s H E hr => ⟨_,
    (pss_cons (ps_set (i := 2) sc__law_pair.nd rfl (Or.inl rfl) (pe_c C__law_gcd hr (by first | decide | omega) (pa_cons (pv 0) (pa_cons (pv 1) pa_nil))))
 (pss_cons (ps_if (pt_cmpR op_lt (pv 1) pe_int (nomark _))
 (pss_one (ps_set (i := 2) sc__law_pair.nd rfl (Or.inl rfl) (pe_op op_sub pe_int (pv 2))))
 pss_nil)
 (pss_one (ps_ret (pe_tup (pa_cons (pe_op op_divB (pv 0) (pv 2)) (pa_cons (pe_op op_divB (pv 1) (pv 2)) pa_nil))))))), fun μ ds post exc hl hP => ?_⟩
  obtain ⟨a, b, rfl, h0, hb, hp⟩ := hP
  have hd := lowC_ok (a := a) h0 hb
  have hd2 : CDivB b (lowC a b) := hd
  unfold lowD lowC at *
  walk_at "dx"
  refine ⟨a, b, rfl, ?_⟩
  walk_at "dx"
  refine ifD (fun hn => ?_) (fun hn => ?_)
  · rw [if_pos hn, ← Int.zero_sub] at hd hd2 hp
    walk_at "dx"
    exact hp
  · rw [if_neg hn] at hd hd2 hp
    walk_at "dx"
    exact hp
end
def P_deck : PD := fun μ ds post _ => ∃ ns : List Int, ds = [.frz (ns.map D.int)] ∧ ns.length ≤ 63 ∧ (∀ n ∈ ns, n.natAbs < 2 ^ 1048576) ∧
  ∀ μ' a g, Deck a g 0 μ' → But a g μ μ' → μ a = none → μ g = none → post μ' (.at a)
def P_draw : PD := fun μ ds post _ => ∃ (a g : Addr) (c n : Int), ds = [.at a, .int n] ∧ Deck a g c μ ∧ c ≤ 1000000 ∧ 0 < n ∧ n.natAbs < 2 ^ 9000 ∧
  ∀ μ' x, 0 ≤ x → x < n → Deck a g (c + 1) μ' → But a g μ μ' → post μ' (.int x)
theorem fmod_nn {x n : Int} (h : 0 < n) : 0 ≤ x.fmod n ∧ x.fmod n < n := by
  rw [Int.fmod_eq_emod_of_nonneg _ (by omega)]
  exact ⟨Int.emod_nonneg _ (by omega), Int.emod_lt_of_pos _ h⟩
theorem fdiv_nn {x n : Int} {b : Nat} (h : 0 < n) (hx : 0 ≤ x) (hb : x.natAbs < b) : 0 ≤ x.fdiv n ∧ (x.fdiv n).natAbs < b := by
  rw [Int.fdiv_eq_ediv_of_nonneg _ (by omega)]
  have h1 := Int.ediv_nonneg hx (Int.le_of_lt h)
  have h2 : x / n ≤ x := Int.ediv_le_self _ hx
  omega
theorem p10_18 : (10 : Int) ^ (18 : Int).toNat = 1000000000000000000 := by decide
section
variable {P : Program} {w : World} {K : PySem.W.Frag} {mg : Str → Option Value} {base : Heap}
theorem pow_lt {n : Int} (a : Nat) (h0 : 0 ≤ n) (h : n < 2 ^ a) : n.natAbs < 2 ^ a := by
  have : ((n.natAbs : Nat) : Int) = n := by omega
  have h2 : ((n.natAbs : Nat) : Int) < ((2 ^ a : Nat) : Int) := by
    rw [this, Int.natCast_pow]; exact h
  exact Int.ofNat_lt.mp h2
theorem big_sub {n : Int} (h : n.natAbs < 2 ^ 1048576) : (n - 1000000000000000000).natAbs < 2 ^ 1048577 := by
  have e : (2 : Nat) ^ 1048577 = 2 ^ 1048576 * 2 := Nat.pow_succ ..
  have h2 : 2 ^ 64 ≤ (2 : Nat) ^ 1048576 := Nat.pow_le_pow_right (by decide) (by decide)
  have h3 : (1000000000000000000 : Nat) ≤ 2 ^ 64 := by decide
  generalize (2 : Nat) ^ 1048577 = A at *
  generalize (2 : Nat) ^ 1048576 = B at *
  generalize (2 : Nat) ^ 64 = C at *
  omega
theorem mark_ok (x : Int) : 0 ≤ x.fmod 1000000000000000003 + 1 ∧ x.fmod 1000000000000000003 + 1 ≤ 1000000000000000003 := by
  have := fmod_nn (x := x) (n := 1000000000000000003) (by decide)
  omega
theorem c_deck (h : Std K mg "_law_deck" s__law_deck) (n_int : mg "int" = none) : Cal P w K mg base CX0 1 "_law_deck" s__law_deck ["_law_script"] (spD K 1 P_deck) := by
  refine cal0 h sc__law_deck (fun _ _ _ _ _ _ us hl => match us, hl with | [_], _ => rfl) fun f cdv A outer s H E hr => ⟨_,
    have hu64 := hr.units; (pss_cons (ps_par (i := 1) (j := 2) rfl sc__law_deck.nd rfl rfl (by decide) rfl rfl (pa_cons pe_int (pa_cons (pe_lst pa_nil) pa_nil)) (by rfl))
 (pss_cons (ps_for PassesOwn.never rfl (pi_list (pv 0)) (pg_name (i := 3) sc__law_deck.nd rfl (Or.inl rfl))
 (pss_one (ps_if (pt_cmpR op_ge (pv 3) (pe_op op_powB pe_int pe_int) (nomark _))
 (pss_one (ps_expr (pe_bm PySem.F.plainAttrs_list PySem.F.slot_list_insert PySem.F.type_list_insert mt_insert (pv 2) (pa_cons pe_int (pa_cons (pe_op op_sub (pv 3) (pe_op op_powB pe_int pe_int)) pa_nil)))))
 (pss_one (ps_set (i := 1) sc__law_deck.nd rfl (Or.inl rfl) (pe_op op_addU (pe_op op_modN (pe_callTy call_int1 (by rfl) n_int (by decide +kernel) (pa_cons (pe_op op_powB (pe_op op_addU (pv 1) (pe_op op_modN (pe_callTy call_int1 (by rfl) n_int (by decide +kernel) (pa_cons (pv 3) pa_nil)) pe_int)) pe_int) pa_nil)) pe_int) pe_int))))))
 (pss_one (ps_ret (pe_lst (pa_cons (pv 2) (pa_cons pe_int (pa_cons (pv 1) (pa_cons pe_int pa_nil))))))))), fun μ ds post exc hl hP => ?_⟩
  obtain ⟨ns, rfl, hn63, hbits, hp⟩ := hP
  walk_at "dx"
  refine evx_lstM ?_
  walk_at "dx"
  intro g hg
  walk_at "dx"
  refine gs_for (itx_list ?_)
  walk_at "dx"
  refine ⟨_, _, isL_frz, ?_⟩
  refine ⟨fun i μ' ρ' => ∃ (gs : List Int) (m : Int) (v : Option D), ρ' = [some (.frz (ns.map D.int)), some (.int m), some (.at g), v] ∧ μ' g = some (.lst (gs.map D.int)) ∧ (∀ b, b ≠ g → μ' b = μ b) ∧
    (∀ x ∈ gs, 0 ≤ x ∧ x.natAbs < 2 ^ 1048577) ∧ gs.length ≤ i ∧ 0 ≤ m ∧ m ≤ 1000000000000000003, ⟨[], 40961, none, rfl, mput_same, fun b hb => mput_ne hb, List.forall_mem_nil _, Nat.le_refl _, by decide, by decide⟩, fun _ _ _ _ _ => True.intro, ?_, ?_⟩
  · rintro i d μ' ρ' hd ⟨gs, m, v, rfl, h1, h2, h3, h4, h5, h6⟩
    have hi : i < (ns.map D.int).length := (List.getElem?_eq_some_iff.mp hd).1
    rw [List.length_map] at hi
    obtain ⟨n, hn, rfl⟩ : ∃ n ∈ ns, d = .int n := by
      have := List.mem_of_getElem? hd
      obtain ⟨n, hn, rfl⟩ := List.mem_map.mp this
      exact ⟨n, hn, rfl⟩
    have hb := hbits n hn
    have p1 : CPowB 10 18 := ⟨by decide, 4, by decide, by decide⟩
    have f1 := fmod_nn (x := n) (n := 1000000000039) (by decide)
    have p2 : CPowB (m + n.fmod 1000000000039) 3 := ⟨by decide, 64, by omega, by decide⟩
    walk_at "dx"
    rw [p10_18]
    refine ifD (fun hc => ?_) (fun hc => ?_)
    · walk_at "dx"
      refine evx_ins0 ?_
      walk_at "dx"
      refine ⟨g, _, rfl, h1, ?_⟩
      walk_at "dx"
      rw [p10_18]
      refine ⟨_, h1, by rw [List.length_map]; omega, (n - 1000000000000000000) :: gs, m, _, rfl, mput_same, fun b hb => (mput_ne hb).trans (h2 b hb), ?_, ?_, h5, h6⟩
      · intro x hx
        rcases List.mem_cons.mp hx with rfl | hx
        · exact ⟨by omega, big_sub hb⟩
        · exact h3 x hx
      · rw [List.length_cons]; omega
    · walk_at "dx"
      have := mark_ok ((m + n.fmod 1000000000039) ^ (3 : Int).toNat)
      exact ⟨gs, _, _, rfl, h1, h2, h3, by omega, this.1, this.2⟩
  · rintro μ' ρ' ⟨gs, m, v, rfl, h1, h2, h3, h4, h5, h6⟩
    walk_at "dx"
    refine evx_lstM ?_
    walk_at "dx"
    intro a ha
    have hne : a ≠ g := fun z => by rw [z, h1] at ha; cases ha
    refine hp _ a g ⟨gs, 0, m, 0, hne, mput_same, by rw [mput_ne (Ne.symm hne)]; exact h1, h3, by decide, Nat.two_pow_pos _, h5, h6, by decide, by decide⟩ (fun b hb hb2 => (mput_ne hb).trans (h2 b hb2)) (by rw [← h2 a hne]; exact ha) hg
end
section
variable {P : Program} {w : World} {K : PySem.W.Frag} {mg : Str → Option Value} {base : Heap}
theorem getLast_map {gs : List Int} (h : gs ≠ []) : ∃ x, x ∈ gs ∧ (gs.map D.int).getLast? = some (.int x) ∧ (gs.map D.int).dropLast = (gs.dropLast).map D.int := by
  refine ⟨gs.getLast h, List.getLast_mem h, ?_, ?_⟩
  · rw [List.getLast?_map, List.getLast?_eq_some_getLast h]
    rfl
  · rw [List.map_dropLast]
theorem c_draw (h : Std K mg "_law_draw" s__law_draw) (n_int : mg "int" = none) : Cal P w K mg base CX0 1 "_law_draw" s__law_draw ["_law_deck_here", "_law_limit"] (spD K 2 P_draw) := by
  refine cal0 h sc__law_draw (fun _ _ _ _ _ _ us hl => match us, hl with | [_, _], _ => rfl) fun f cdv A outer s H E hr => ⟨_,
    have hu64 := hr.units; (pss_cons (ps_if (PW.pt (pw_and (pt_cmpR (op_eqU hu64) (pe_ix ix_seq (pv 0) pe_int (fun _ _ => rfl)) pe_int (nomark _)) (pw_and1 (pt_cmpR (op_neU hu64) (pe_ix ix_seq (pv 0) pe_int (fun _ _ => rfl)) (pe_lst pa_nil) (nomark _)))))
 (pss_one (ps_asg (pe_bm0 PySem.F.plainAttrs_list PySem.F.slot_list_pop PySem.F.type_list_pop mt_pop (pe_ix ix_seq (pv 0) pe_int (fun _ _ => rfl))) (pg_sub (pv 0) pe_int set_list)))
 pss_nil)
 (pss_cons (ps_if (pt_cmpR op_gt (pe_ix ix_seq (pv 0) pe_int (fun _ _ => rfl)) pe_int (nomark _))
 (pss_cons (ps_set (i := 2) sc__law_draw.nd rfl (Or.inl rfl) (pe_op op_modN (pe_callTy call_int1 (by rfl) n_int (by decide +kernel) (pa_cons (pe_ix ix_seq (pv 0) pe_int (fun _ _ => rfl)) pa_nil)) (pv 1)))
 (pss_cons (ps_asg (pe_op op_divB (pe_ix ix_seq (pv 0) pe_int (fun _ _ => rfl)) (pv 1)) (pg_sub (pv 0) pe_int set_list))
 (pss_one (ps_ret (pv 2)))))
 pss_nil)
 (pss_cons (ps_asg (pe_op op_addU (pe_ix ix_seq (pv 0) pe_int (fun _ _ => rfl)) pe_int) (pg_sub (pv 0) pe_int set_list))
 (pss_cons (ps_set (i := 3) sc__law_draw.nd rfl (Or.inl rfl) (pe_op op_modN (pe_callTy call_int1 (by rfl) n_int (by decide +kernel) (pa_cons (pe_op op_powB (pe_op op_addU (pe_ix ix_seq (pv 0) pe_int (fun _ _ => rfl)) (pe_op op_mulU (pe_op op_mulU pe_int (pe_ix ix_seq (pv 0) pe_int (fun _ _ => rfl))) (pe_ix ix_seq (pv 0) pe_int (fun _ _ => rfl)))) pe_int) pa_nil)) pe_int))
 (pss_one (ps_ret (pe_op op_modN (pe_op op_divB (pe_op op_modN (pe_callTy call_int1 (by rfl) n_int (by decide +kernel) (pa_cons (pe_op op_mulU (pv 3) (pe_op op_addU (pv 3) pe_int)) pa_nil)) pe_int) pe_int) (pv 1)))))))), fun μ ds post exc hl hP => ?_⟩
  obtain ⟨a, g, c, n, rfl, D0, hc, hn, hn2, hp⟩ := hP
  walk_at "d0"
  refine gs_mid (fun μ' ρ' => Deck a g c μ' ∧ But a g μ μ' ∧ ρ' = [some (.at a), some (.int n), none, none]) ?_ ?_
  · obtain ⟨gs, o, m, k, d⟩ := D0
    have ha := d.ha
    walk_at "dx"
    refine ifD (fun h0 => ?_) (fun h0 => ?_)
    · walk_at "dx"
      refine evx_lst ?_
      walk_at "dx"
      refine opx_r (opx_neD ?_ ?_ ?_ ?_ ?_)
      · rw [see_at d.hg]; exact ints_plain gs
      · rw [see_at d.hg]; exact ints_shaped gs
      · rfl
      · rfl
      · have e : eqD (seeD μ (.at g)) (seeD μ (.lst [])) = gs.isEmpty := by
          rw [see_at d.hg]; exact eqD_nil gs
        rw [e]
        walk_at "dx"
        cases he : gs.isEmpty with
        | true =>
          refine ifNo rfl ?_
          walk_at "dx"
          exact ⟨⟨gs, o, m, k, d⟩, But.refl _ _ _, rfl⟩
        | false =>
          refine ifY rfl ?_
          have hne : gs ≠ [] := fun z => by rw [z] at he; cases he
          obtain ⟨x, hx, hx2, hx3⟩ := getLast_map hne
          walk_at "dx"
          refine evx_pop ?_
          walk_at "dx"
          refine ⟨g, _, _, rfl, d.hg, hx2, ?_⟩
          refine tgx_subA (a := a) (k := 1) (j := 1) (by rw [mput_ne d.ne]; exact ha) rfl ?_ (fun Ψ q => by walk_at "dx"; exact q) (fun Ψ q => by walk_at "dx"; exact q)
          refine ⟨⟨gs.dropLast, x, m, k, d.ne, mput_same, by rw [mput_ne (Ne.symm d.ne), mput_same, hx3], fun y hy => d.gs y ((List.dropLast_sublist gs).subset hy), (d.gs x hx).1, (d.gs x hx).2, d.m0, d.m1, d.k0, d.k1⟩, But.put2.trans But.put1, rfl⟩
    · refine ifNo rfl ?_
      walk_at "dx"
      exact ⟨⟨gs, o, m, k, d⟩, But.refl _ _ _, rfl⟩
  · rintro μ1 ρ1 ⟨⟨gs, o, m, k, d⟩, hb, rfl⟩
    have ha := d.ha
    have hn0 : n ≠ 0 := by omega
    have hdv : CDivB o n := ⟨hn0, hn2⟩
    walk_at "dx"
    refine ifD (fun h0 => ?_) (fun h0 => ?_)
    · walk_at "dx"
      have f1 := fmod_nn (x := o) hn
      have f2 := fdiv_nn hn d.o0 d.o1
      refine tgx_subA (a := a) (k := 1) (j := 1) ha rfl ?_ (fun Ψ q => by walk_at "dx"; exact q) (fun Ψ q => by walk_at "dx"; exact q)
      walk_at "dx"
      refine hp _ _ f1.1 f1.2 ⟨gs, _, m, k, d.ne, mput_same, by rw [mput_ne (Ne.symm d.ne)]; exact d.hg, d.gs, f2.1, f2.2, d.m0, d.m1, d.k0, by have := d.k1; omega⟩ (hb.trans But.put1)
    · walk_at "dx"
      refine tgx_subA (a := a) (k := 3) (j := 3) ha rfl ?_ (fun Ψ q => by walk_at "dx"; exact q) (fun Ψ q => by walk_at "dx"; exact q)
      have hk1 : k + 1 ≤ 1000001 := by have := d.k1; omega
      have hk0 := d.k0
      have hm0 := d.m0
      have hm1 := d.m1
      have e1 : (7907 * (k + 1)).natAbs < 2 ^ 64 := by omega
      have e2 : (k + 1).natAbs < 2 ^ 64 := by omega
      have c1 : CMulB 7907 (k + 1) := ⟨64, 64, by decide, e2, by decide⟩
      have c2 : CMulB (7907 * (k + 1)) (k + 1) := ⟨64, 64, e1, e2, by decide⟩
      have q0 : 0 ≤ 7907 * (k + 1) * (k + 1) := Int.mul_nonneg (by omega) (by omega)
      have q1 : 7907 * (k + 1) * (k + 1) ≤ 7907 * 1000001 * 1000001 := Int.mul_le_mul (by omega) (by omega) (by omega) (by omega)
      have c3 : CPowB (m + 7907 * (k + 1) * (k + 1)) 2 := ⟨by decide, 64, by omega, by decide⟩
      walk_at "dx"
      generalize ((m + 7907 * (k + 1) * (k + 1)) ^ (2 : Int).toNat) = z
      have f1 := fmod_nn (x := z) (n := 1000000000000000000000007) (by decide)
      generalize z.fmod 1000000000000000000000007 = t at f1 ⊢
      have c4 : CMulB t (t + 41) := ⟨100, 100, by omega, by omega, by decide⟩
      walk_at "dx"
      generalize t * (t + 41) = u
      have f2 := fmod_nn (x := u) (n := 1000000000000000000117) (by decide)
      generalize u.fmod 1000000000000000000117 = v at f2 ⊢
      have c5 : CDivB v 1009 := ⟨by decide, by decide⟩
      walk_at "dx"
      have f3 := fmod_nn (x := v.fdiv 1009) hn
      refine hp _ _ f3.1 f3.2 ⟨gs, o, m, k + 1, d.ne, mput_same, by rw [mput_ne (Ne.symm d.ne)]; exact d.hg, d.gs, d.o0, d.o1, d.m0, d.m1, by omega, by have := d.k1; omega⟩ (hb.trans But.put1)
end
section
variable {P : Program} {w : World} {K : PySem.W.Frag} {mg : Str → Option Value} {base : Heap}
theorem c_alike (h : Std K mg "_law_alike" s__law_alike) (n_isinstance : mg "isinstance" = none) (n_list : mg "list" = none) (n_tuple : mg "tuple" = none) (n_len : mg "len" = none) (n_zip : mg "zip" = none) (n_str : mg "str" = none) (n_bool : mg "bool" = none) (n_int : mg "int" = none) :
    ∀ n, Cal P w K mg base CX0 n "_law_alike" s__law_alike ["_law_found", "_law_due_here"] (spD K 2 (P_alike n))
  | 0 => cal_false (n := 2) h (fun _ _ _ _ _ _ us hl => match us, hl with | [_, _], _ => rfl)
  | n + 1 => by
    have C__law_alike := c_alike h n_isinstance n_list n_tuple n_len n_zip n_str n_bool n_int n
    refine cal0 h sc__law_alike (fun _ _ _ _ _ _ us hl => match us, hl with | [_, _], _ => rfl) fun f cdv A outer s H E hr => ⟨_,
      have hu64 := hr.units; (pss_cons (ps_if (pt_cmp (pc_isN (pv 1)))
 (pss_one (ps_ret (pe_cmp (pc_isN (pv 0)) rfl)))
 pss_nil)
 (pss_cons (ps_if (pt_val (pe_callB call_isU (by rfl) n_isinstance (by decide +kernel) (pa_cons (pv 1) (pa_cons (pe_tup (pa_cons (pe_bltn (v := .ty "list") (by rfl) n_list (by decide +kernel) rfl) (pa_cons (pe_bltn (v := .ty "tuple") (by rfl) n_tuple (by decide +kernel) rfl) pa_nil))) pa_nil))))
 (pss_cons (ps_if (PW.pt (pw_or (pt_not (pt_val (pe_callB call_isU (by rfl) n_isinstance (by decide +kernel) (pa_cons (pv 0) (pa_cons (pe_tup (pa_cons (pe_bltn (v := .ty "list") (by rfl) n_list (by decide +kernel) rfl) (pa_cons (pe_bltn (v := .ty "tuple") (by rfl) n_tuple (by decide +kernel) rfl) pa_nil))) pa_nil))))) (pw_or1 (pt_cmpR (op_neU hu64) (pe_callB call_isU (by rfl) n_isinstance (by decide +kernel) (pa_cons (pv 0) (pa_cons (pe_bltn (v := .ty "list") (by rfl) n_list (by decide +kernel) rfl) pa_nil))) (pe_callB call_isU (by rfl) n_isinstance (by decide +kernel) (pa_cons (pv 1) (pa_cons (pe_bltn (v := .ty "list") (by rfl) n_list (by decide +kernel) rfl) pa_nil))) (nomark _)))))
 (pss_one (ps_ret pe_bl))
 pss_nil)
 (pss_cons (ps_if (pt_cmpR (op_neU hu64) (pe_callB call_len (by rfl) n_len (by decide +kernel) (pa_cons (pv 0) pa_nil)) (pe_callB call_len (by rfl) n_len (by decide +kernel) (pa_cons (pv 1) pa_nil)) (nomark _))
 (pss_one (ps_ret pe_bl))
 pss_nil)
 (pss_cons (ps_for PassesOwn.never rfl (pi_zipA (by rfl) n_zip (pa_cons (pv 0) (pa_cons (pv 1) pa_nil))) (pg_tup rfl (pgs_cons (pg_name (i := 2) sc__law_alike.nd rfl (Or.inl rfl)) (pgs_cons (pg_name (i := 3) sc__law_alike.nd rfl (Or.inl rfl)) pgs_nil)))
 (pss_one (ps_if (pt_not (pt_val (pe_c C__law_alike hr (by first | decide | omega) (pa_cons (pv 2) (pa_cons (pv 3) pa_nil)))))
 (pss_one (ps_ret pe_bl))
 pss_nil)))
 (pss_one (ps_ret pe_bl)))))
 pss_nil)
 (pss_cons (ps_if (pt_val (pe_callB call_isU (by rfl) n_isinstance (by decide +kernel) (pa_cons (pv 1) (pa_cons (pe_bltn (v := .ty "str") (by rfl) n_str (by decide +kernel) rfl) pa_nil))))
 (pss_one (ps_ret (pe_and (pe_callB call_isU (by rfl) n_isinstance (by decide +kernel) (pa_cons (pv 0) (pa_cons (pe_bltn (v := .ty "str") (by rfl) n_str (by decide +kernel) rfl) pa_nil))) (pe_one (pe_cmpR (op_eqU hu64) (pv 0) (pv 1) (nomark _))))))
 pss_nil)
 (pss_cons (ps_if (pt_cmpR (op_neU hu64) (pe_callB call_isU (by rfl) n_isinstance (by decide +kernel) (pa_cons (pv 0) (pa_cons (pe_bltn (v := .ty "bool") (by rfl) n_bool (by decide +kernel) rfl) pa_nil))) (pe_callB call_isU (by rfl) n_isinstance (by decide +kernel) (pa_cons (pv 1) (pa_cons (pe_bltn (v := .ty "bool") (by rfl) n_bool (by decide +kernel) rfl) pa_nil))) (nomark _))
 (pss_one (ps_ret pe_bl))
 pss_nil)
 (pss_one (ps_ret (pe_and (pe_callB call_isU (by rfl) n_isinstance (by decide +kernel) (pa_cons (pv 0) (pa_cons (pe_bltn (v := .ty "int") (by rfl) n_int (by decide +kernel) rfl) pa_nil))) (pe_one (pe_cmpR (op_eqU hu64) (pv 0) (pv 1) (nomark _)))))))))), fun μ ds post exc hl hP => ?_⟩
    obtain ⟨d, rfl, had, hp⟩ := hP
    walk_at "d0"
    cases d
    case non =>
      walk_at "dz"
      exact hp
    case bl b =>
      walk_at "dz"
      rw [decide_eq_true rfl]
      exact hp
    case int i =>
      walk_at "dz"
      rw [decide_eq_true rfl]
      exact hp
    case str z =>
      walk_at "dz"
      rw [decide_eq_true rfl]
      exact hp
    case tup ds =>
      cases n with
      | zero => cases had
      | succ m =>
        have ha : ds.all (alD m) = true ∧ ds.length ≤ 1000000 := by
          have q : (ds.all (alD m) && decide (ds.length ≤ 1000000)) = true := had
          rw [Bool.and_eq_true] at q
          exact ⟨q.1, of_decide_eq_true q.2⟩
        walk_at "dz"
        refine ifN (fun z => absurd rfl z) (fun _ => ?_)
        walk_at "dz"
        refine gs_for (itx_zip ?_)
        walk_at "dx"
        refine ⟨_, _, _, _, rfl, .inr ⟨rfl, rfl⟩, ?_⟩
        refine ⟨fun i μ' ρ' => μ' = μ ∧ ∃ u v, ρ' = [some (.tup ds), some (.tup ds), u, v], ⟨rfl, none, none, rfl⟩, fun _ _ _ _ _ => True.intro, ?_, ?_⟩
        · rintro i d μ' ρ' hd ⟨rfl, u, v, rfl⟩
          obtain ⟨x, hx, rfl⟩ := pairs_same hd
          walk_at "dx"
          refine ⟨x, rfl, List.all_eq_true.mp ha.1 x hx, ?_⟩
          walk_at "dz"
          exact ⟨_, _, rfl⟩
        · rintro μ' ρ' ⟨rfl, u, v, rfl⟩
          walk_at "dz"
          exact hp
    case lst ds =>
      cases n with
      | zero => cases had
      | succ m =>
        have ha : ds.all (alD m) = true ∧ ds.length ≤ 1000000 := by
          have q : (ds.all (alD m) && decide (ds.length ≤ 1000000)) = true := had
          rw [Bool.and_eq_true] at q
          exact ⟨q.1, of_decide_eq_true q.2⟩
        walk_at "dz"
        refine ifN (fun z => absurd rfl z) (fun _ => ?_)
        walk_at "dz"
        refine gs_for (itx_zip ?_)
        walk_at "dx"
        refine ⟨_, _, _, _, rfl, .inl ⟨_, _, isL_lst, isL_lst, fun _ => True.intro, fun _ => True.intro⟩, ?_⟩
        refine ⟨fun i μ' ρ' => μ' = μ ∧ ∃ u v, ρ' = [some (.lst ds), some (.lst ds), u, v], ⟨rfl, none, none, rfl⟩, fun _ _ _ _ _ => True.intro, ?_, ?_⟩
        · rintro i d μ' ρ' hd ⟨rfl, u, v, rfl⟩
          obtain ⟨x, hx, rfl⟩ := pairs_same hd
          walk_at "dx"
          refine ⟨x, rfl, List.all_eq_true.mp ha.1 x hx, ?_⟩
          walk_at "dz"
          exact ⟨_, _, rfl⟩
        · rintro μ' ρ' ⟨rfl, u, v, rfl⟩
          walk_at "dz"
          exact hp
    all_goals (cases n <;> cases had)
end
local macro_rules | `(tactic| walk_at "d1") => `(tactic| first
  | with_reducible refine gs_seq ?_
  | with_reducible refine gs_asg ?_
  | with_reducible refine gs_if ?_
  | with_reducible refine gs_ret ?_
  | with_reducible refine gs_drop ?_
  | with_reducible refine gs_next ?_
  | with_reducible refine gs_par ?_
  | with_reducible refine gs_retN ?_
  | ((with_reducible refine evx_var (d := ?dd) ?hh ?_); (case hh => exact rfl))
  | with_reducible refine evx_int ?_
  | with_reducible refine evx_str ?_
  | with_reducible refine evx_bl ?_
  | with_reducible refine evx_non ?_
  | with_reducible refine evx_ty ?_
  | with_reducible refine evx_at ?_
  | with_reducible refine evx_op ?_
  | with_reducible refine evx_un ?_
  | ((with_reducible refine evx_isT (cs := ["list", "tuple"]) ?hr ?hc ?_); (case hr => exact fun μ1 Ψ q => evl_cons (evx_ty (evl_cons (evx_ty (evl_nil q))))); (case hc => decide))
  | ((fail_if_success (with_reducible show EvX _ _ _ _ _ (tCB _ (tCons _ (tCons (tTup _) tNil))) _)); (with_reducible refine evx_cb ?_))
  | with_reducible refine evl_cons ?_
  | with_reducible refine evl_nil ?_
  | with_reducible refine evx_tup ?_
  | with_reducible refine evx_if ?_
  | with_reducible refine evb_test ?_
  | with_reducible refine evb_B ?_
  | with_reducible refine evb_and ?_
  | with_reducible refine evb_or ?_
  | with_reducible refine evb_not ?_
  | with_reducible refine evx_andV ?_
  | with_reducible refine evx_orV ?_
  | with_reducible refine evx_notV ?_
  | with_reducible refine evx_isN ?_
  | with_reducible refine evx_notN ?_
  | with_reducible refine evx_xv ?_
  | with_reducible refine evx_call ?_
  | with_reducible refine evx_callS ?_
  | with_reducible refine evx_ck ?_
  | with_reducible refine tgx_name ?_
  | ((with_reducible refine tgx_tup ?_ ?_); exact rfl)
  | with_reducible refine tgsx_cons ?_
  | with_reducible refine tgsx_nil ?_
  | with_reducible refine gs_break ?_
  | with_reducible refine gs_cont ?_
  | walk_at "dop")
local macro_rules | `(tactic| walk_at "dl") => `(tactic| refine ⟨Nat.le_of_ble_eq_true rfl, ?_⟩)
local macro_rules | `(tactic| walk_at "dop") => `(tactic| first
  | with_reducible refine opx_i0 ?_
  | with_reducible refine opx_b0 ?_
  | with_reducible refine opx_l (opx_i0 ?_)
  | with_reducible refine opx_l (opx_eqI ?_)
  | with_reducible refine opx_l (opx_neI ?_)
  | with_reducible refine opx_l (opx_eqS ?_)
  | with_reducible refine opx_l (opx_neS ?_)
  | with_reducible refine opx_l (opx_eqB ?_)
  | with_reducible refine opx_l (opx_neB ?_)
  | ((with_reducible refine opx_i ?_ ?_); walk_at "ds")
  | ((with_reducible refine opx_l (opx_i ?_ ?_)); walk_at "ds")
  | with_reducible refine unx_i ?_
  | ((with_reducible refine cax_is (T := ?tt) (b := ?bb) ?ht ?hk ?_); (case ht => exact rfl); (case hk => walk_at "dty"))
  | ((refine cax_len (n := ?nn) ?hx ?_); (case hx => exact rfl))
  | with_reducible refine cax_abs ?_
  | with_reducible refine cax_int ?_
  | with_reducible refine cax_gcd ?_
  | with_reducible refine cax_max2 ?_
  | with_reducible refine cax_min2 ?_
  | ((with_reducible show OpX _ (rIx _) _ (D.at _) _ _); (refine opx_ixA (es := ?ee) (d := ?dd) ?h1 ?h2 ?_); (case h1 => first | assumption | exact mput_same); (case h2 => exact rfl))
  | ((with_reducible show OpX _ (rIx _) _ _ _ _); (refine opx_ix (es := ?ee) (d := ?dd) ?h1 ?h2 ?_); (case h1 => first | exact rfl | assumption); (case h2 => first | exact rfl | assumption))
  | (refine ⟨Nat.le_of_ble_eq_true rfl, ?_⟩)
  | with_reducible refine ⟨_, rfl, ?_⟩
  | ((refine ⟨?tt, ?bb, ?ht, ?hk, ?_⟩); (case ht => exact rfl); (case hk => walk_at "dtys"))
  | with_reducible refine ⟨_, _, rfl, ?_⟩
  | (refine ⟨rfl, ?_⟩))
/-- a side condition: known, or plain arithmetic -/
local macro_rules | `(tactic| walk_at "ds") => `(tactic| first | assumption | exact ⟨by decide, by decide⟩ | (exact by decide) | omega)
local macro_rules | `(tactic| walk_at "dix") => `(tactic| first | (exact rfl; exact rfl) | (first | assumption | exact rfl); (first | assumption | exact rfl))
local macro_rules | `(tactic| walk_at "dx") => `(tactic| ((repeat (walk_at "d1")); try dsimp only))
local macro_rules | `(tactic| walk_at "d0") => `(tactic| try dsimp only [cxOf, Cx.nox, Cx.wish, Cx.tr, Cx.suite])
local macro_rules | `(tactic| walk_at "dty") => `(tactic| first | exact kit_int_int | exact kit_int_bool | exact kit_int_str | exact kit_int_list | exact kit_int_tuple | exact kit_bool_bool | exact kit_bool_int | exact kit_bool_str | exact kit_str_str | exact kit_tuple_tuple | exact kit_tuple_list | exact kit_list_list | exact kit_list_tuple | exact kit_NoneType_int | exact kit_NoneType_bool | exact kit_NoneType_str | exact kit_NoneType_list | exact kit_tuple_str | exact kit_list_str | exact kit_str_bool | exact kit_str_int | exact kit_str_list | exact kit_str_tuple | exact kit_bool_list | exact kit_bool_tuple)
local macro_rules | `(tactic| walk_at "dtys") => `(tactic| first | exact kits_int_lt | exact kits_bool_lt | exact kits_str_lt | exact kits_tuple_lt | exact kits_list_lt | exact kits_NoneType_lt)
local macro_rules | `(tactic| walk_at "dz") => `(tactic| ((walk_at "dx"); (repeat ((first | refine ifY rfl ?_ | refine ifNo rfl ?_); walk_at "dx"))))
def isNum (a b : Int) : Bool := decide (1 ≤ b) && decide (((Nat.gcd a.natAbs b.natAbs : Nat) : Int) = 1)
def numD (a b : Int) : D := .tup [.int a, .int b]
def Sz (a : Int) : Prop := a.natAbs < 2 ^ 1000
def P_isnum : PD := fun μ ds post _ => ∃ a b : Int, ds = [numD a b] ∧ post μ (.bl (isNum a b))
def P_checked (A : Addr) : PD := fun μ ds post exc => ∃ a b : Int, ds = [numD a b] ∧ if isNum a b = true then post μ (numD a b) else exc μ A (numD a b)
def P_sum : PD := fun μ ds post _ => ∃ a b c d : Int, ds = [numD a b, numD c d] ∧ 0 < b ∧ 0 < d ∧ Sz a ∧ Sz b ∧ Sz c ∧ Sz d ∧ post μ (lowD (a * d + c * b) (b * d))
def P_prod : PD := fun μ ds post _ => ∃ a b c d : Int, ds = [numD a b, numD c d] ∧ 0 < b ∧ 0 < d ∧ Sz a ∧ Sz b ∧ Sz c ∧ Sz d ∧ post μ (lowD (a * c) (b * d))
def P_two (A : Addr) (f : Int → Int → Int → Int → D) : PD := fun μ ds post exc => ∃ a b c d : Int, ds = [numD a b, numD c d] ∧ Sz a ∧ Sz b ∧ Sz c ∧ Sz d ∧
  if isNum a b = true then (if isNum c d = true then post μ (f a b c d) else exc μ A (numD c d)) else exc μ A (numD a b)
def sumF (a b c d : Int) : D := lowD (a * d + c * b) (b * d)
def prodF (a b c d : Int) : D := lowD (a * c) (b * d)
def P_quot (A : Addr) : PD := fun μ ds post exc => ∃ a b c d : Int, ds = [numD a b, numD c d] ∧ Sz a ∧ Sz b ∧ Sz c ∧ Sz d ∧
  if isNum a b = true then (if isNum c d = true then (if c = 0 then exc μ A (numD c d) else post μ (lowD (a * d) (b * c))) else exc μ A (numD c d)) else exc μ A (numD a b)
def P_power (A : Addr) : PD := fun μ ds post exc => ∃ a b t : Int, ds = [numD a b, .int t] ∧ Sz a ∧ Sz b ∧ t ≤ 40 ∧
  if isNum a b = true then (if t < 0 then exc μ A (.int t) else post μ (numD (a ^ t.toNat) (b ^ t.toNat))) else exc μ A (numD a b)
theorem isNum_pos {a b : Int} (h : isNum a b = true) : 0 < b := by
  unfold isNum at h
  rw [Bool.and_eq_true, decide_eq_true_eq] at h
  omega
theorem lowC_ne {x y : Int} (h : y ≠ 0) : lowC x y ≠ 0 := by
  have h0 : 0 < Nat.gcd x.natAbs y.natAbs := Nat.gcd_pos_of_pos_right _ (by omega)
  unfold lowC
  split <;> omega
theorem lowC_dvd1 (x y : Int) : lowC x y ∣ x := by
  have h : ((Nat.gcd x.natAbs y.natAbs : Nat) : Int) ∣ x := Int.ofNat_dvd_left.mpr (Nat.gcd_dvd_left _ _)
  unfold lowC
  split
  · exact Int.neg_dvd.mpr h
  · exact h
theorem lowC_dvd2 (x y : Int) : lowC x y ∣ y := by
  have h : ((Nat.gcd x.natAbs y.natAbs : Nat) : Int) ∣ y := Int.ofNat_dvd_left.mpr (Nat.gcd_dvd_right _ _)
  unfold lowC
  split
  · exact Int.neg_dvd.mpr h
  · exact h
theorem lowC_scale {x y k : Int} (hk : 0 < k) : lowC (x * k) (y * k) = lowC x y * k := by
  have e : ((Nat.gcd (x * k).natAbs (y * k).natAbs : Nat) : Int) = ((Nat.gcd x.natAbs y.natAbs : Nat) : Int) * k := by
    rw [Int.natAbs_mul, Int.natAbs_mul, Nat.gcd_mul_right, Int.natCast_mul]
    congr 1
    omega
  unfold lowC
  rw [e]
  by_cases h : y < 0
  · rw [if_pos h, if_pos (Int.mul_neg_of_neg_of_pos h hk), Int.neg_mul]
  · rw [if_neg h, if_neg (by have := Int.mul_nonneg (Int.not_lt.mp h) (Int.le_of_lt hk); omega)]
theorem fdiv_scale {x c k : Int} (hk : 0 < k) (h : c ∣ x) : (x * k).fdiv (c * k) = x.fdiv c := by
  rw [Int.fdiv_eq_ediv_of_dvd (Int.mul_dvd_mul_right _ h), Int.fdiv_eq_ediv_of_dvd h, Int.mul_ediv_mul_of_pos_left _ _ hk]
theorem low_scale {x y k : Int} (hk : 0 < k) : lowD (x * k) (y * k) = lowD x y := by
  unfold lowD
  rw [lowC_scale hk, fdiv_scale hk (lowC_dvd1 x y), fdiv_scale hk (lowC_dvd2 x y)]
theorem sz_mul {a b : Int} (ha : Sz a) (hb : Sz b) : (a * b).natAbs < 2 ^ 2000 := by
  rw [Int.natAbs_mul]
  have := Nat.mul_lt_mul'' ha hb
  rwa [← Nat.pow_add] at this
theorem sz_add {x y : Int} (hx : x.natAbs < 2 ^ 2000) (hy : y.natAbs < 2 ^ 2000) : (x + y).natAbs < 2 ^ 9000 := by
  have h1 : (x + y).natAbs ≤ x.natAbs + y.natAbs := Int.natAbs_add_le x y
  have h2 : (2 : Nat) ^ 2001 = 2 ^ 2000 * 2 := Nat.pow_succ ..
  have h3 : (2 : Nat) ^ 2001 ≤ 2 ^ 9000 := Nat.pow_le_pow_right (by decide) (by decide)
  generalize (2 : Nat) ^ 2001 = B at *
  generalize (2 : Nat) ^ 2000 = A at *
  generalize (2 : Nat) ^ 9000 = C at *
  omega
theorem lt_9000 {n a : Nat} (h : n < 2 ^ a) (ha : a ≤ 9000) : n < 2 ^ 9000 := Nat.lt_of_lt_of_le h (Nat.pow_le_pow_right (by decide) ha)
theorem cmul_sz {a b : Int} (ha : Sz a) (hb : Sz b) : CMulB a b := ⟨1000, 1000, ha, hb, by decide⟩
section
variable {P : Program} {w : World} {K : PySem.W.Frag} {mg : Str → Option Value} {base : Heap} {A_IN fI : Addr}
theorem c_is_number (h : Std K mg "is_number" s_is_number) (m_gcd : mg "gcd" = some (.builtin "math.gcd")) : Cal P w K mg base CX0 1 "is_number" s_is_number ["value"] (spD K 1 P_isnum) := by
  refine cal0 h sc_is_number (fun _ _ _ _ _ _ us hl => match us, hl with | [_], _ => rfl) fun f cdv A outer s H E hr => ⟨_,
    have hu64 := hr.units; (pss_cons (ps_asg (pv 0) (pg_tup rfl (pgs_cons (pg_name (i := 1) sc_is_number.nd rfl (Or.inl rfl)) (pgs_cons (pg_name (i := 2) sc_is_number.nd rfl (Or.inl rfl)) pgs_nil))))
 (pss_one (ps_ret (pe_and (pe_cmpR op_ge (pv 2) pe_int (nomark _)) (pe_one (pe_cmpR (op_eqU hu64) (pe_callBfun cr_gcd (by rfl) m_gcd (pa_cons (pv 1) (pa_cons (pv 2) pa_nil))) pe_int (nomark _))))))), fun μ ds post exc hl hP => ?_⟩
  obtain ⟨a, b, rfl, hp⟩ := hP
  unfold numD isNum at *
  walk_at "d0"
  walk_at "dx"
  refine ifD (fun hb => ?_) (fun hb => ?_)
  · rw [decide_eq_true hb, Bool.true_and] at hp
    walk_at "dx"
    exact hp
  · rw [decide_eq_false hb, Bool.false_and] at hp
    exact hp
theorem c_checkedX (h : Std K mg "checked" s_checked) (X_InvalidNumber : ExcD K mg "InvalidNumber" A_IN fI) (G_init : IniD P w K mg base fI) (C_is_number : Cal P w K mg base CX0 1 "is_number" s_is_number ["value"] (spD K 1 P_isnum)) : Cal P w K mg base (L2.CX P w) 3 "checked" s_checked ["value"] (spD K 1 (P_checked A_IN)) := by
  refine calX h sc_checked (fun _ _ _ _ _ _ us hl => match us, hl with | [_], _ => rfl) fun f cdv A outer s H E hr => ⟨_,
    have hu64 := hr.units; (pss_cons (ps_if (pt_not (pt_val (pe_c C_is_number hr (by first | decide | omega) (pa_cons (pv 0) pa_nil))))
 (pss_one (ps_raiseD X_InvalidNumber G_init hr (by decide) (takes_of rfl rfl rfl rfl) (pa_cons (pv 0) pa_nil)))
 pss_nil)
 (pss_one (ps_ret (pv 0)))), fun μ ds post exc hl hP => ?_⟩
  obtain ⟨a, b, rfl, hp⟩ := hP
  walk_at "d0"
  walk_at "dx"
  refine ⟨a, b, rfl, ?_⟩
  walk_at "dx"
  cases hn : isNum a b with
  | true =>
    rw [hn, if_pos rfl] at hp
    walk_at "dz"
    exact hp
  | false =>
    rw [hn, if_neg (by decide)] at hp
    walk_at "dz"
    refine gs_raise X_InvalidNumber.k.ox X_InvalidNumber.k.nv ?_
    walk_at "dx"
    exact hp
theorem c_sum_of (h : Std K mg "sum_of" s_sum_of) (C_lowest : Cal P w K mg base CX0 1 "lowest" s_lowest ["above", "below"] (spD K 2 P_lowest)) : Cal P w K mg base CX0 2 "sum_of" s_sum_of ["one", "other"] (spD K 2 P_sum) := by
  refine cal0 h sc_sum_of (fun _ _ _ _ _ _ us hl => match us, hl with | [_, _], _ => rfl) fun f cdv A outer s H E hr => ⟨_,
    have hu64 := hr.units; (pss_cons (ps_if (pt_cmpR (op_eqU hu64) (pe_ix ix_seq (pv 0) pe_int (fun _ _ => rfl)) (pe_ix ix_seq (pv 1) pe_int (fun _ _ => rfl)) (nomark _))
 (pss_one (ps_ret (pe_c C_lowest hr (by first | decide | omega) (pa_cons (pe_op op_addU (pe_ix ix_seq (pv 0) pe_int (fun _ _ => rfl)) (pe_ix ix_seq (pv 1) pe_int (fun _ _ => rfl))) (pa_cons (pe_ix ix_seq (pv 0) pe_int (fun _ _ => rfl)) pa_nil)))))
 pss_nil)
 (pss_one (ps_ret (pe_c C_lowest hr (by first | decide | omega) (pa_cons (pe_op op_addU (pe_op op_mulU (pe_ix ix_seq (pv 0) pe_int (fun _ _ => rfl)) (pe_ix ix_seq (pv 1) pe_int (fun _ _ => rfl))) (pe_op op_mulU (pe_ix ix_seq (pv 1) pe_int (fun _ _ => rfl)) (pe_ix ix_seq (pv 0) pe_int (fun _ _ => rfl)))) (pa_cons (pe_op op_mulU (pe_ix ix_seq (pv 0) pe_int (fun _ _ => rfl)) (pe_ix ix_seq (pv 1) pe_int (fun _ _ => rfl))) pa_nil)))))), fun μ ds post exc hl hP => ?_⟩
  obtain ⟨a, b, c, d, rfl, hb, hd, sa, sb, sc, sd, hp⟩ := hP
  have m1 := cmul_sz sa sd
  have m2 := cmul_sz sc sb
  have m3 := cmul_sz sb sd
  unfold numD at *
  walk_at "d0"
  walk_at "dx"
  refine ifD (fun e => ?_) (fun e => ?_)
  · subst e
    walk_at "dx"
    refine ⟨a + c, b, rfl, by omega, lt_9000 sb (by decide), ?_⟩
    rw [← low_scale (x := a + c) (y := b) hb, Int.add_mul]
    exact hp
  · walk_at "dx"
    exact ⟨_, _, rfl, Int.ne_of_gt (Int.mul_pos hb hd), lt_9000 (sz_mul sb sd) (by decide), hp⟩
theorem c_product_of (h : Std K mg "product_of" s_product_of) (C_lowest : Cal P w K mg base CX0 1 "lowest" s_lowest ["above", "below"] (spD K 2 P_lowest)) : Cal P w K mg base CX0 2 "product_of" s_product_of ["one", "other"] (spD K 2 P_prod) := by
  refine cal0 h sc_product_of (fun _ _ _ _ _ _ us hl => match us, hl with | [_, _], _ => rfl) fun f cdv A outer s H E hr => ⟨_,
    have hu64 := hr.units; (pss_one (ps_ret (pe_c C_lowest hr (by first | decide | omega) (pa_cons (pe_op op_mulU (pe_ix ix_seq (pv 0) pe_int (fun _ _ => rfl)) (pe_ix ix_seq (pv 1) pe_int (fun _ _ => rfl))) (pa_cons (pe_op op_mulU (pe_ix ix_seq (pv 0) pe_int (fun _ _ => rfl)) (pe_ix ix_seq (pv 1) pe_int (fun _ _ => rfl))) pa_nil))))), fun μ ds post exc hl hP => ?_⟩
  obtain ⟨a, b, c, d, rfl, hb, hd, sa, sb, sc, sd, hp⟩ := hP
  have m1 := cmul_sz sa sc
  have m3 := cmul_sz sb sd
  unfold numD at *
  walk_at "d0"
  walk_at "dx"
  exact ⟨_, _, rfl, Int.ne_of_gt (Int.mul_pos hb hd), lt_9000 (sz_mul sb sd) (by decide), hp⟩
end
section
variable {P : Program} {w : World} {K : PySem.W.Frag} {mg : Str → Option Value} {base : Heap} {A_IN fI : Addr}
theorem c_addedX (h : Std K mg "added" s_added) (C_checkedX : Cal P w K mg base (L2.CX P w) 3 "checked" s_checked ["value"] (spD K 1 (P_checked A_IN))) (C_sum_of : Cal P w K mg base CX0 2 "sum_of" s_sum_of ["one", "other"] (spD K 2 P_sum)) : Cal P w K mg base (L2.CX P w) 4 "added" s_added ["one", "other"] (spD K 2 (P_two A_IN sumF)) := by
  refine calX h sc_added (fun _ _ _ _ _ _ us hl => match us, hl with | [_, _], _ => rfl) fun f cdv A outer s H E hr => ⟨_,
    have hu64 := hr.units; (pss_one (ps_ret (pe_c C_sum_of hr (by first | decide | omega) (pa_cons (pe_cS C_checkedX hr (by decide) (takes_of rfl rfl rfl rfl) (pa_cons (pv 0) pa_nil)) (pa_cons (pe_cS C_checkedX hr (by decide) (takes_of rfl rfl rfl rfl) (pa_cons (pv 1) pa_nil)) pa_nil))))), fun μ ds post exc hl hP => ?_⟩
  obtain ⟨a, b, c, d, rfl, sa, sb, sc, sd, hp⟩ := hP
  walk_at "d0"
  walk_at "dx"
  refine ⟨a, b, rfl, ?_⟩
  cases hn : isNum a b with
  | false =>
    rw [hn, if_neg (by decide)] at hp
    exact hp
  | true =>
    rw [hn, if_pos rfl] at hp
    walk_at "dz"
    refine ⟨c, d, rfl, ?_⟩
    cases hm : isNum c d with
    | false =>
      rw [hm, if_neg (by decide)] at hp
      exact hp
    | true =>
      rw [hm, if_pos rfl] at hp
      walk_at "dz"
      exact ⟨a, b, c, d, rfl, isNum_pos hn, isNum_pos hm, sa, sb, sc, sd, hp⟩
theorem c_productX (h : Std K mg "product" s_product) (C_checkedX : Cal P w K mg base (L2.CX P w) 3 "checked" s_checked ["value"] (spD K 1 (P_checked A_IN))) (C_product_of : Cal P w K mg base CX0 2 "product_of" s_product_of ["one", "other"] (spD K 2 P_prod)) : Cal P w K mg base (L2.CX P w) 4 "product" s_product ["one", "other"] (spD K 2 (P_two A_IN prodF)) := by
  refine calX h sc_product (fun _ _ _ _ _ _ us hl => match us, hl with | [_, _], _ => rfl) fun f cdv A outer s H E hr => ⟨_,
    have hu64 := hr.units; (pss_one (ps_ret (pe_c C_product_of hr (by first | decide | omega) (pa_cons (pe_cS C_checkedX hr (by decide) (takes_of rfl rfl rfl rfl) (pa_cons (pv 0) pa_nil)) (pa_cons (pe_cS C_checkedX hr (by decide) (takes_of rfl rfl rfl rfl) (pa_cons (pv 1) pa_nil)) pa_nil))))), fun μ ds post exc hl hP => ?_⟩
  obtain ⟨a, b, c, d, rfl, sa, sb, sc, sd, hp⟩ := hP
  walk_at "d0"
  walk_at "dx"
  refine ⟨a, b, rfl, ?_⟩
  cases hn : isNum a b with
  | false =>
    rw [hn, if_neg (by decide)] at hp
    exact hp
  | true =>
    rw [hn, if_pos rfl] at hp
    walk_at "dz"
    refine ⟨c, d, rfl, ?_⟩
    cases hm : isNum c d with
    | false =>
      rw [hm, if_neg (by decide)] at hp
      exact hp
    | true =>
      rw [hm, if_pos rfl] at hp
      walk_at "dz"
      exact ⟨a, b, c, d, rfl, isNum_pos hn, isNum_pos hm, sa, sb, sc, sd, hp⟩
theorem c_quotientX (h : Std K mg "quotient" s_quotient) (X_InvalidNumber : ExcD K mg "InvalidNumber" A_IN fI) (G_init : IniD P w K mg base fI) (C_checkedX : Cal P w K mg base (L2.CX P w) 3 "checked" s_checked ["value"] (spD K 1 (P_checked A_IN))) (C_lowest : Cal P w K mg base CX0 1 "lowest" s_lowest ["above", "below"] (spD K 2 P_lowest)) : Cal P w K mg base (L2.CX P w) 4 "quotient" s_quotient ["one", "other"] (spD K 2 (P_quot A_IN)) := by
  refine calX h sc_quotient (fun _ _ _ _ _ _ us hl => match us, hl with | [_, _], _ => rfl) fun f cdv A outer s H E hr => ⟨_,
    have hu64 := hr.units; (pss_cons (ps_expr (pe_cS C_checkedX hr (by decide) (takes_of rfl rfl rfl rfl) (pa_cons (pv 0) pa_nil)))
 (pss_cons (ps_if (pt_cmpR (op_eqU hu64) (pe_ix ix_seq (pe_cS C_checkedX hr (by decide) (takes_of rfl rfl rfl rfl) (pa_cons (pv 1) pa_nil)) pe_int (fun _ _ => rfl)) pe_int (nomark _))
 (pss_one (ps_raiseD X_InvalidNumber G_init hr (by decide) (takes_of rfl rfl rfl rfl) (pa_cons (pv 1) pa_nil)))
 pss_nil)
 (pss_one (ps_ret (pe_c C_lowest hr (by first | decide | omega) (pa_cons (pe_op op_mulU (pe_ix ix_seq (pv 0) pe_int (fun _ _ => rfl)) (pe_ix ix_seq (pv 1) pe_int (fun _ _ => rfl))) (pa_cons (pe_op op_mulU (pe_ix ix_seq (pv 0) pe_int (fun _ _ => rfl)) (pe_ix ix_seq (pv 1) pe_int (fun _ _ => rfl))) pa_nil))))))), fun μ ds post exc hl hP => ?_⟩
  obtain ⟨a, b, c, d, rfl, sa, sb, sc, sd, hp⟩ := hP
  walk_at "d0"
  walk_at "dx"
  refine ⟨a, b, rfl, ?_⟩
  cases hn : isNum a b with
  | false =>
    rw [hn, if_neg (by decide)] at hp
    exact hp
  | true =>
    rw [hn, if_pos rfl] at hp
    walk_at "dz"
    refine ⟨c, d, rfl, ?_⟩
    cases hm : isNum c d with
    | false =>
      rw [hm, if_neg (by decide)] at hp
      exact hp
    | true =>
      rw [hm, if_pos rfl] at hp
      have m1 := cmul_sz sa sd
      have m3 := cmul_sz sb sc
      unfold numD at *
      walk_at "dz"
      refine ifD (fun e => ?_) (fun e => ?_)
      · rw [if_pos e] at hp
        walk_at "dz"
        refine gs_raise X_InvalidNumber.k.ox X_InvalidNumber.k.nv ?_
        walk_at "dx"
        exact hp
      · rw [if_neg e] at hp
        walk_at "dz"
        exact ⟨_, _, rfl, Int.mul_ne_zero (Int.ne_of_gt (isNum_pos hn)) e, lt_9000 (sz_mul sb sc) (by decide), hp⟩
theorem pow_sz {a : Int} (ha : Sz a) (n : Nat) (hn : n ≤ 40) : (a ^ n).natAbs < 2 ^ 40001 := by
  have h1 : ∀ m : Nat, (a ^ m).natAbs ≤ 2 ^ (1000 * m) := by
    intro m
    induction m with
    | zero => rw [Int.pow_zero, Nat.mul_zero, Nat.pow_zero]; decide
    | succ m ih =>
      rw [Int.pow_succ, Int.natAbs_mul, Nat.mul_succ, Nat.pow_add]
      exact Nat.mul_le_mul ih (Nat.le_of_lt ha)
  refine Nat.lt_of_le_of_lt (h1 n) (Nat.pow_lt_pow_right (by decide) (by omega))
theorem c_powerX (h : Std K mg "power" s_power) (n_range : mg "range" = none) (X_InvalidNumber : ExcD K mg "InvalidNumber" A_IN fI) (G_init : IniD P w K mg base fI) (C_checkedX : Cal P w K mg base (L2.CX P w) 3 "checked" s_checked ["value"] (spD K 1 (P_checked A_IN))) : Cal P w K mg base (L2.CX P w) 4 "power" s_power ["one", "times"] (spD K 2 (P_power A_IN)) := by
  refine calX h sc_power (fun _ _ _ _ _ _ us hl => match us, hl with | [_, _], _ => rfl) fun f cdv A outer s H E hr => ⟨_,
    have hu64 := hr.units; (pss_cons (ps_expr (pe_cS C_checkedX hr (by decide) (takes_of rfl rfl rfl rfl) (pa_cons (pv 0) pa_nil)))
 (pss_cons (ps_if (pt_cmpR op_lt (pv 1) pe_int (nomark _))
 (pss_one (ps_raiseD X_InvalidNumber G_init hr (by decide) (takes_of rfl rfl rfl rfl) (pa_cons (pv 1) pa_nil)))
 pss_nil)
 (pss_cons (ps_set (i := 2) sc_power.nd rfl (Or.inl rfl) (pe_tup (pa_cons pe_int (pa_cons pe_int pa_nil))))
 (pss_cons (ps_for (passes_of rfl) rfl (pi_range1 rfl n_range (pa_cons (pv 1) pa_nil)) (pg_name (i := 3) sc_power.nd rfl (Or.inl rfl))
 (pss_one (ps_set (i := 2) sc_power.nd rfl (Or.inl rfl) (pe_tup (pa_cons (pe_op op_mulU (pe_ix ix_seq (pv 2) pe_int (fun _ _ => rfl)) (pe_ix ix_seq (pv 0) pe_int (fun _ _ => rfl))) (pa_cons (pe_op op_mulU (pe_ix ix_seq (pv 2) pe_int (fun _ _ => rfl)) (pe_ix ix_seq (pv 0) pe_int (fun _ _ => rfl))) pa_nil))))))
 (pss_one (ps_ret (pv 2))))))), fun μ ds post exc hl hP => ?_⟩
  obtain ⟨a, b, t, rfl, sa, sb, ht, hp⟩ := hP
  walk_at "d0"
  walk_at "dx"
  refine ⟨a, b, rfl, ?_⟩
  cases hn : isNum a b with
  | false =>
    rw [hn, if_neg (by decide)] at hp
    exact hp
  | true =>
    rw [hn, if_pos rfl] at hp
    unfold numD at *
    walk_at "dz"
    refine ifD (fun e => ?_) (fun e => ?_)
    · rw [if_pos e] at hp
      walk_at "dz"
      refine gs_raise X_InvalidNumber.k.ox X_InvalidNumber.k.nv ?_
      walk_at "dx"
      exact hp
    · rw [if_neg e] at hp
      walk_at "dz"
      refine gs_for (itx_range1 ?_)
      walk_at "dx"
      refine ⟨⟨by omega, by omega⟩, ?_⟩
      refine ⟨fun i μ' ρ' => μ' = μ ∧ i ≤ 40 ∧ ∃ v : Option D, ρ' = [some (.tup [.int a, .int b]), some (.int t), some (.tup [.int (a ^ i), .int (b ^ i)]), v], ⟨rfl, by decide, none, by rw [Int.pow_zero, Int.pow_zero]; rfl⟩, fun _ _ _ _ _ => True.intro, ?_, ?_⟩
      · rintro i d μ' ρ' hd ⟨rfl, hi, v, rfl⟩
        obtain ⟨hi2, rfl⟩ := rangeD_get hd
        have m1 : CMulB (a ^ i) a := ⟨40001, 1000, pow_sz sa i hi, sa, by decide⟩
        have m2 : CMulB (b ^ i) b := ⟨40001, 1000, pow_sz sb i hi, sb, by decide⟩
        walk_at "dz"
        exact ⟨by omega, _, by rw [Int.pow_succ, Int.pow_succ]; rfl⟩
      · rintro μ' ρ' ⟨rfl, hi, v, rfl⟩
        rw [rangeD_len] at hi ⊢
        walk_at "dz"
        exact hp
end
local macro_rules | `(tactic| walk_at "d1") => `(tactic| first
  | with_reducible refine gs_seq ?_
  | with_reducible refine gs_asg ?_
  | with_reducible refine gs_if ?_
  | with_reducible refine gs_ret ?_
  | with_reducible refine gs_drop ?_
  | with_reducible refine gs_next ?_
  | with_reducible refine gs_par ?_
  | with_reducible refine gs_retN ?_
  | ((with_reducible refine evx_var (d := ?dd) ?hh ?_); (case hh => exact rfl))
  | with_reducible refine evx_int ?_
  | with_reducible refine evx_str ?_
  | with_reducible refine evx_bl ?_
  | with_reducible refine evx_non ?_
  | with_reducible refine evx_ty ?_
  | with_reducible refine evx_at ?_
  | with_reducible refine evx_op ?_
  | with_reducible refine evx_un ?_
  | ((with_reducible refine evx_isT (cs := ["list", "tuple"]) ?hr ?hc ?_); (case hr => exact fun μ1 Ψ q => evl_cons (evx_ty (evl_cons (evx_ty (evl_nil q))))); (case hc => decide))
  | ((fail_if_success (with_reducible show EvX _ _ _ _ _ (tCB _ (tCons _ (tCons (tTup _) tNil))) _)); (with_reducible refine evx_cb ?_))
  | with_reducible refine evl_cons ?_
  | with_reducible refine evl_nil ?_
  | with_reducible refine evx_tup ?_
  | with_reducible refine evx_if ?_
  | with_reducible refine evb_test ?_
  | with_reducible refine evb_B ?_
  | with_reducible refine evb_and ?_
  | with_reducible refine evb_or ?_
  | with_reducible refine evb_not ?_
  | with_reducible refine evx_andV ?_
  | with_reducible refine evx_orV ?_
  | with_reducible refine evx_notV ?_
  | with_reducible refine evx_isN ?_
  | with_reducible refine evx_notN ?_
  | with_reducible refine evx_xv ?_
  | with_reducible refine evx_call ?_
  | with_reducible refine evx_callS ?_
  | with_reducible refine evx_ck ?_
  | with_reducible refine evx_ckS ?_
  | with_reducible refine evx_sl ?_
  | with_reducible refine evo_none ?_
  | with_reducible refine evo_part ?_
  | ((with_reducible refine slx_S ?_ ?_); (exact Nat.le_of_ble_eq_true rfl))
  | with_reducible refine tgx_name ?_
  | ((with_reducible refine tgx_tup ?_ ?_); exact rfl)
  | with_reducible refine tgsx_cons ?_
  | with_reducible refine tgsx_nil ?_
  | with_reducible refine gs_break ?_
  | with_reducible refine gs_cont ?_
  | walk_at "dop")
local macro_rules | `(tactic| walk_at "dl") => `(tactic| refine ⟨Nat.le_of_ble_eq_true rfl, ?_⟩)
local macro_rules | `(tactic| walk_at "dop") => `(tactic| first
  | with_reducible refine opx_i0 ?_
  | with_reducible refine opx_b0 ?_
  | with_reducible refine opx_l (opx_i0 ?_)
  | with_reducible refine opx_l (opx_eqI ?_)
  | with_reducible refine opx_l (opx_neI ?_)
  | with_reducible refine opx_l (opx_eqS ?_)
  | with_reducible refine opx_l (opx_neS ?_)
  | with_reducible refine opx_l (opx_eqB ?_)
  | with_reducible refine opx_l (opx_neB ?_)
  | ((with_reducible refine opx_i ?_ ?_); walk_at "ds")
  | ((with_reducible refine opx_l (opx_i ?_ ?_)); walk_at "ds")
  | with_reducible refine unx_i ?_
  | ((with_reducible refine cax_is (T := ?tt) (b := ?bb) ?ht ?hk ?_); (case ht => exact rfl); (case hk => walk_at "dty"))
  | ((refine cax_len (n := ?nn) ?hx ?_); (case hx => exact rfl))
  | with_reducible refine cax_abs ?_
  | with_reducible refine cax_int ?_
  | with_reducible refine cax_gcd ?_
  | with_reducible refine cax_max2 ?_
  | with_reducible refine cax_min2 ?_
  | ((with_reducible show OpX _ (rIx _) _ (D.at _) _ _); (refine opx_ixA (es := ?ee) (d := ?dd) ?h1 ?h2 ?_); (case h1 => first | assumption | exact mput_same); (case h2 => exact rfl))
  | ((with_reducible show OpX _ (rIx _) _ _ _ _); (refine opx_ix (es := ?ee) (d := ?dd) ?h1 ?h2 ?_); (case h1 => first | exact rfl | assumption); (case h2 => first | exact rfl | assumption))
  | (refine ⟨Nat.le_of_ble_eq_true rfl, ?_⟩)
  | with_reducible refine ⟨_, rfl, ?_⟩
  | ((refine ⟨?tt, ?bb, ?ht, ?hk, ?_⟩); (case ht => exact rfl); (case hk => walk_at "dtys"))
  | with_reducible refine ⟨_, _, rfl, ?_⟩
  | (refine ⟨rfl, ?_⟩))
/-- a side condition: known, or plain arithmetic -/
local macro_rules | `(tactic| walk_at "ds") => `(tactic| first | assumption | exact ⟨by decide, by decide⟩ | (exact by decide) | omega)
local macro_rules | `(tactic| walk_at "dix") => `(tactic| first | (exact rfl; exact rfl) | (first | assumption | exact rfl); (first | assumption | exact rfl))
local macro_rules | `(tactic| walk_at "dx") => `(tactic| ((repeat (walk_at "d1")); try dsimp only))
local macro_rules | `(tactic| walk_at "d0") => `(tactic| try dsimp only [cxOf, Cx.nox, Cx.wish, Cx.tr, Cx.suite])
local macro_rules | `(tactic| walk_at "dty") => `(tactic| first | exact kit_int_int | exact kit_int_bool | exact kit_int_str | exact kit_int_list | exact kit_int_tuple | exact kit_bool_bool | exact kit_bool_int | exact kit_bool_str | exact kit_str_str | exact kit_tuple_tuple | exact kit_tuple_list | exact kit_list_list | exact kit_list_tuple | exact kit_NoneType_int | exact kit_NoneType_bool | exact kit_NoneType_str | exact kit_NoneType_list | exact kit_tuple_str | exact kit_list_str | exact kit_str_bool | exact kit_str_int | exact kit_str_list | exact kit_str_tuple | exact kit_bool_list | exact kit_bool_tuple)
local macro_rules | `(tactic| walk_at "dtys") => `(tactic| first | exact kits_int_lt | exact kits_bool_lt | exact kits_str_lt | exact kits_tuple_lt | exact kits_list_lt | exact kits_NoneType_lt)
local macro_rules | `(tactic| walk_at "dz") => `(tactic| ((walk_at "dx"); (repeat ((first | refine ifY rfl ?_ | refine ifNo rfl ?_); walk_at "dx"))))
/-- what is due of two numbers: kind 0 the sum, 1 the product, 2 the quotient, 3 both -/
def due2 (k : Nat) (a b c d : Int) : D :=
  if isNum a b = true then (if isNum c d = true then
    (if k = 2 then (if c = 0 then .tup [.bl false, numD c d] else .tup [.bl true, lowD (a * d) (b * c)])
     else if k = 0 then .tup [.bl true, sumF a b c d] else if k = 1 then .tup [.bl true, prodF a b c d] else .tup [.bl true, .lst [sumF a b c d, prodF a b c d]])
    else .tup [.bl false, numD c d]) else .tup [.bl false, numD a b]
def dueP (a b t : Int) : D := if isNum a b = true then (if t < 0 then .tup [.bl false, .int t] else .tup [.bl true, numD (a ^ t.toNat) (b ^ t.toNat)]) else .tup [.bl false, numD a b]
def Nm2 (nm : Str) (k : Nat) : Prop := (nm = "added" ∧ k = 0) ∨ (nm = "product" ∧ k = 1) ∨ (nm = "quotient" ∧ k = 2) ∨ (nm = "both by name" ∧ k = 3) ∨ (nm = "quotient by name" ∧ k = 2)
def NmP (nm : Str) : Prop := nm = "power" ∨ nm = "power by name"
def P_told : PD := fun μ ds post _ => (∃ nm k a b c d, Nm2 nm k ∧ ds = [.str nm, numD a b, numD c d] ∧ Sz a ∧ Sz b ∧ Sz c ∧ Sz d ∧ post μ (due2 k a b c d)) ∨
  (∃ nm a b t, NmP nm ∧ ds = [.str nm, numD a b, .int t] ∧ Sz a ∧ Sz b ∧ t ≤ 40 ∧ post μ (dueP a b t))
/-- the slots behind the try: something found, or an error caught -/
def Out (A : Addr) (nm one other due : D) (ρ : Ro) : Prop := (∃ d, ρ = [some nm, some one, some other, some d, some .non, none] ∧ due = .tup [.bl true, d]) ∨ (∃ d, ρ = [some nm, some one, some other, some .non, some (.exc A d), none] ∧ due = .tup [.bl false, d])
section
variable {P : Program} {w : World} {K : PySem.W.Frag} {mg : Str → Option Value} {base : Heap} {A_InvalidNumber A_WorthError A_InvalidMachine A_InvalidSigns A_UnknownSign A_UnlikeSigns fI : Addr}
theorem c_told (h : Std K mg "_law_told" s__law_told) (n_isinstance : mg "isinstance" = none) (n_ValueError : mg "ValueError" = none)
    (X_InvalidNumber : ExcD K mg "InvalidNumber" A_InvalidNumber fI) (X_WorthError : ExcD K mg "WorthError" A_WorthError fI) (X_InvalidMachine : ExcD K mg "InvalidMachine" A_InvalidMachine fI) (X_InvalidSigns : ExcD K mg "InvalidSigns" A_InvalidSigns fI)
    (X_UnknownSign : ExcD K mg "UnknownSign" A_UnknownSign fI) (X_UnlikeSigns : ExcD K mg "UnlikeSigns" A_UnlikeSigns fI) (G : ClsG K) (k1 : PySem.W.exmOne K (.ref A_InvalidNumber) (.ref A_WorthError) = some true)
    (k2 : PySem.W.kitOne K (.ref A_InvalidNumber) (.type "ValueError") = some true) (k3 : PySem.W.kitAny K (.ref A_InvalidNumber) [.ref A_InvalidMachine, .ref A_InvalidSigns, .ref A_UnknownSign, .ref A_UnlikeSigns] = some false)
    (C_addedX : Cal P w K mg base (L2.CX P w) 4 "added" s_added ["one", "other"] (spD K 2 (P_two A_InvalidNumber sumF))) (C_productX : Cal P w K mg base (L2.CX P w) 4 "product" s_product ["one", "other"] (spD K 2 (P_two A_InvalidNumber prodF))) (C_quotientX : Cal P w K mg base (L2.CX P w) 4 "quotient" s_quotient ["one", "other"] (spD K 2 (P_quot A_InvalidNumber))) (C_powerX : Cal P w K mg base (L2.CX P w) 4 "power" s_power ["one", "times"] (spD K 2 (P_power A_InvalidNumber))) : Cal P w K mg base CX0 5 "_law_told" s__law_told ["_law_name", "_law_one", "_law_other"] (spD K 3 P_told) := by
  refine cal0 h sc__law_told (fun _ _ _ _ _ _ us hl => match us, hl with | [_, _, _], _ => rfl) fun f cdv A outer s H E hr => ⟨_,
    have hu64 := hr.units; (pss_cons (ps_asg (pe_tup (pa_cons pe_non (pa_cons pe_non pa_nil))) (pg_tup rfl (pgs_cons (pg_name (i := 3) sc__law_told.nd rfl (Or.inl rfl)) (pgs_cons (pg_name (i := 4) sc__law_told.nd rfl (Or.inl rfl)) pgs_nil))))
 (pss_cons (ps_try_keep (i := 5) (c := .ref A_WorthError) rfl rfl rfl sc__law_told.nd rfl rfl ⟨rfl, by decide, Or.inl X_WorthError.m⟩ (fun W pn xe tk _ => (pss_one (ps_if (pt_cmpR (op_eqTr hu64) (pv 0) pe_str (nomark _))
 (pss_one (ps_set (i := 3) sc__law_told.nd rfl (Or.inl rfl) (pe_cS C_addedX hr (by decide) tk (pa_cons (pv 1) (pa_cons (pv 2) pa_nil)))))
 (pss_one (ps_if (pt_cmpR (op_eqTr hu64) (pv 0) pe_str (nomark _))
 (pss_one (ps_set (i := 3) sc__law_told.nd rfl (Or.inl rfl) (pe_cS C_productX hr (by decide) tk (pa_cons (pv 1) (pa_cons (pv 2) pa_nil)))))
 (pss_one (ps_if (pt_cmpR (op_eqTr hu64) (pv 0) pe_str (nomark _))
 (pss_one (ps_set (i := 3) sc__law_told.nd rfl (Or.inl rfl) (pe_cS C_quotientX hr (by decide) tk (pa_cons (pv 1) (pa_cons (pv 2) pa_nil)))))
 (pss_one (ps_if (pt_cmpR (op_eqTr hu64) (pv 0) pe_str (nomark _))
 (pss_one (ps_set (i := 3) sc__law_told.nd rfl (Or.inl rfl) (pe_cS C_powerX hr (by decide) tk (pa_cons (pv 1) (pa_cons (pv 2) pa_nil)))))
 (pss_one (ps_if (pt_cmpR (op_eqTr hu64) (pv 0) pe_str (nomark _))
 (pss_one (ps_set (i := 3) sc__law_told.nd rfl (Or.inl rfl) (pe_ckS (n := 0) (m := 2) (pm := [1, 0]) (ks := ["times", "one"]) C_powerX hr (by decide) (by decide) tk (fun _ _ _ _ _ _ us ws h1 h2 => match us, ws, h1, h2 with | [], [_, _], _, _ => rfl) (pk_cons (pv 2) (pk_cons (pv 1) pk_nil)))))
 (pss_one (ps_if (pt_cmpR (op_eqTr hu64) (pv 0) pe_str (nomark _))
 (pss_one (ps_set (i := 3) sc__law_told.nd rfl (Or.inl rfl) (pe_ckS (n := 0) (m := 2) (pm := [1, 0]) (ks := ["other", "one"]) C_quotientX hr (by decide) (by decide) tk (fun _ _ _ _ _ _ us ws h1 h2 => match us, ws, h1, h2 with | [], [_, _], _, _ => rfl) (pk_cons (pv 2) (pk_cons (pv 1) pk_nil)))))
 (pss_one (ps_set (i := 3) sc__law_told.nd rfl (Or.inl rfl) (pe_lst (pa_cons (pe_ckS (n := 0) (m := 2) (pm := [1, 0]) (ks := ["other", "one"]) C_addedX hr (by decide) (by decide) tk (fun _ _ _ _ _ _ us ws h1 h2 => match us, ws, h1, h2 with | [], [_, _], _, _ => rfl) (pk_cons (pv 2) (pk_cons (pv 1) pk_nil))) (pa_cons (pe_ckS (n := 0) (m := 2) (pm := [1, 0]) (ks := ["other", "one"]) C_productX hr (by decide) (by decide) tk (fun _ _ _ _ _ _ us ws h1 h2 => match us, ws, h1, h2 with | [], [_, _], _, _ => rfl) (pk_cons (pv 2) (pk_cons (pv 1) pk_nil))) pa_nil)))))))))))))))))) (fun a oe pn => (pss_one (ps_set (i := 4) sc__law_told.nd rfl (Or.inl rfl) (pv 5)))))
 (pss_cons (ps_if (pt_cmp (pc_isN (pv 4)))
 (pss_one (ps_ret (pe_tup (pa_cons pe_bl (pa_cons (pv 3) pa_nil)))))
 pss_nil)
 (pss_cons (ps_if (PW.pt (pw_or (pt_not (pt_val (pe_callB call_isU (by rfl) n_isinstance (by decide +kernel) (pa_cons (pv 4) (pa_cons (pe_glob (v := .ref A_InvalidNumber) rfl X_InvalidNumber.m rfl) pa_nil))))) (pw_or1 (pt_not (pt_val (pe_callB call_isU (by rfl) n_isinstance (by decide +kernel) (pa_cons (pv 4) (pa_cons (pe_bltn (v := .ty "ValueError") (by rfl) n_ValueError (by decide +kernel) rfl) pa_nil))))))))
 (pss_one (ps_ret pe_non))
 pss_nil)
 (pss_cons (ps_if (pt_val (pe_callB call_isU (by rfl) n_isinstance (by decide +kernel) (pa_cons (pv 4) (pa_cons (pe_tup (pa_cons (pe_glob (v := .ref A_InvalidMachine) rfl X_InvalidMachine.m rfl) (pa_cons (pe_glob (v := .ref A_InvalidSigns) rfl X_InvalidSigns.m rfl) (pa_cons (pe_glob (v := .ref A_UnknownSign) rfl X_UnknownSign.m rfl) (pa_cons (pe_glob (v := .ref A_UnlikeSigns) rfl X_UnlikeSigns.m rfl) pa_nil))))) pa_nil))))
 (pss_one (ps_ret pe_non))
 pss_nil)
 (pss_one (ps_ret (pe_tup (pa_cons pe_bl (pa_cons (pe_xv (pv 4)) pa_nil)))))))))), fun μ ds post exc hl hP => ?_⟩
  have main : ∃ nm one other due, ds = [nm, one, other] ∧ post μ due ∧ ((∃ s k a b c d, Nm2 s k ∧ nm = .str s ∧ one = numD a b ∧ other = numD c d ∧ Sz a ∧ Sz b ∧ Sz c ∧ Sz d ∧ due = due2 k a b c d) ∨ (∃ s a b t, NmP s ∧ nm = .str s ∧ one = numD a b ∧ other = .int t ∧ Sz a ∧ Sz b ∧ t ≤ 40 ∧ due = dueP a b t)) := by
    rcases hP with ⟨nm, k, a, b, c, d, hn, rfl, sa, sb, sc, sd, hp⟩ | ⟨nm, a, b, t, hn, rfl, sa, sb, ht, hp⟩
    · exact ⟨_, _, _, _, rfl, hp, .inl ⟨nm, k, a, b, c, d, hn, rfl, rfl, rfl, sa, sb, sc, sd, rfl⟩⟩
    · exact ⟨_, _, _, _, rfl, hp, .inr ⟨nm, a, b, t, hn, rfl, rfl, rfl, sa, sb, ht, rfl⟩⟩
  clear hP
  obtain ⟨nm, one, other, due, rfl, hp, hw⟩ := main
  walk_at "d0"
  refine gs_mid (fun μ' ρ' => μ' = μ ∧ ρ' = [some nm, some one, some other, some .non, some .non, none]) ?_ ?_
  · walk_at "dz"
    rfl
  rintro μ0 ρ0 ⟨rfl, rfl⟩
  refine gs_mid (fun μ' ρ' => μ' = μ0 ∧ Out A_InvalidNumber nm one other due ρ') ?_ ?_
  · refine gs_try (by decide) (fun W' => ?_)
    rcases hw with ⟨s, k, a, b, c, d, hn, rfl, rfl, rfl, sa, sb, sc, sd, rfl⟩ | ⟨s, a, b, t, hn, rfl, rfl, rfl, sa, sb, ht, rfl⟩
    · rcases hn with ⟨rfl, rfl⟩ | ⟨rfl, rfl⟩ | ⟨rfl, rfl⟩ | ⟨rfl, rfl⟩ | ⟨rfl, rfl⟩
      · walk_at "dz"
        refine ⟨a, b, c, d, rfl, sa, sb, sc, sd, ?_⟩
        unfold due2
        refine ifB (fun e => ?_) (fun e => ?_)
        · rw [if_pos e]
          refine ifB (fun e2 => ?_) (fun e2 => ?_)
          · rw [if_pos e2, if_neg (by decide), if_pos rfl]
            walk_at "dz"
            exact .inl ⟨_, rfl, rfl⟩
          · rw [e2, if_neg (by decide)]
            exact ⟨k1, Nat.le_of_ble_eq_true rfl, rfl, .inr ⟨_, rfl, rfl⟩⟩
        · rw [e, if_neg (by decide)]
          exact ⟨k1, Nat.le_of_ble_eq_true rfl, rfl, .inr ⟨_, rfl, rfl⟩⟩
      · walk_at "dz"
        refine ⟨a, b, c, d, rfl, sa, sb, sc, sd, ?_⟩
        unfold due2
        refine ifB (fun e => ?_) (fun e => ?_)
        · rw [if_pos e]
          refine ifB (fun e2 => ?_) (fun e2 => ?_)
          · rw [if_pos e2, if_neg (by decide), if_neg (by decide), if_pos rfl]
            walk_at "dz"
            exact .inl ⟨_, rfl, rfl⟩
          · rw [e2, if_neg (by decide)]
            exact ⟨k1, Nat.le_of_ble_eq_true rfl, rfl, .inr ⟨_, rfl, rfl⟩⟩
        · rw [e, if_neg (by decide)]
          exact ⟨k1, Nat.le_of_ble_eq_true rfl, rfl, .inr ⟨_, rfl, rfl⟩⟩
      · walk_at "dz"
        refine ⟨a, b, c, d, rfl, sa, sb, sc, sd, ?_⟩
        unfold due2
        refine ifB (fun e => ?_) (fun e => ?_)
        · rw [if_pos e]
          refine ifB (fun e2 => ?_) (fun e2 => ?_)
          · rw [if_pos e2, if_pos rfl]
            by_cases e3 : c = 0
            · rw [if_pos e3, if_pos e3]
              exact ⟨k1, Nat.le_of_ble_eq_true rfl, rfl, .inr ⟨_, rfl, rfl⟩⟩
            · rw [if_neg e3, if_neg e3]
              walk_at "dz"
              exact .inl ⟨_, rfl, rfl⟩
          · rw [e2, if_neg (by decide)]
            exact ⟨k1, Nat.le_of_ble_eq_true rfl, rfl, .inr ⟨_, rfl, rfl⟩⟩
        · rw [e, if_neg (by decide)]
          exact ⟨k1, Nat.le_of_ble_eq_true rfl, rfl, .inr ⟨_, rfl, rfl⟩⟩
      · walk_at "dz"
        refine evx_lst ?_
        walk_at "dz"
        refine ⟨a, b, c, d, rfl, sa, sb, sc, sd, ?_⟩
        unfold due2
        refine ifB (fun e => ?_) (fun e => ?_)
        · rw [if_pos e]
          refine ifB (fun e2 => ?_) (fun e2 => ?_)
          · rw [if_pos e2, if_neg (by decide), if_neg (by decide), if_neg (by decide)]
            walk_at "dz"
            refine ⟨a, b, c, d, rfl, sa, sb, sc, sd, ?_⟩
            refine ifY e (ifY e2 ?_)
            walk_at "dz"
            exact .inl ⟨_, rfl, rfl⟩
          · rw [e2, if_neg (by decide)]
            exact ⟨k1, Nat.le_of_ble_eq_true rfl, rfl, .inr ⟨_, rfl, rfl⟩⟩
        · rw [e, if_neg (by decide)]
          exact ⟨k1, Nat.le_of_ble_eq_true rfl, rfl, .inr ⟨_, rfl, rfl⟩⟩
      · walk_at "dz"
        refine ⟨a, b, c, d, rfl, sa, sb, sc, sd, ?_⟩
        unfold due2
        refine ifB (fun e => ?_) (fun e => ?_)
        · rw [if_pos e]
          refine ifB (fun e2 => ?_) (fun e2 => ?_)
          · rw [if_pos e2, if_pos rfl]
            by_cases e3 : c = 0
            · rw [if_pos e3, if_pos e3]
              exact ⟨k1, Nat.le_of_ble_eq_true rfl, rfl, .inr ⟨_, rfl, rfl⟩⟩
            · rw [if_neg e3, if_neg e3]
              walk_at "dz"
              exact .inl ⟨_, rfl, rfl⟩
          · rw [e2, if_neg (by decide)]
            exact ⟨k1, Nat.le_of_ble_eq_true rfl, rfl, .inr ⟨_, rfl, rfl⟩⟩
        · rw [e, if_neg (by decide)]
          exact ⟨k1, Nat.le_of_ble_eq_true rfl, rfl, .inr ⟨_, rfl, rfl⟩⟩
    · rcases hn with rfl | rfl
      all_goals
        walk_at "dz"
        refine ⟨a, b, t, rfl, sa, sb, ht, ?_⟩
        unfold dueP
        refine ifB (fun e => ?_) (fun e => ?_)
        · rw [if_pos e]
          by_cases e3 : t < 0
          · rw [if_pos e3, if_pos e3]
            exact ⟨k1, Nat.le_of_ble_eq_true rfl, rfl, .inr ⟨_, rfl, rfl⟩⟩
          · rw [if_neg e3, if_neg e3]
            walk_at "dz"
            exact .inl ⟨_, rfl, rfl⟩
        · rw [e, if_neg (by decide)]
          exact ⟨k1, Nat.le_of_ble_eq_true rfl, rfl, .inr ⟨_, rfl, rfl⟩⟩
  · rintro μ1 ρ1 ⟨rfl, ⟨d, rfl, rfl⟩ | ⟨d, rfl, rfl⟩⟩
    · walk_at "dz"
      exact hp
    · walk_at "dz"
      refine cax_isX X_InvalidNumber.k G kit_self ?_
      walk_at "dz"
      refine cax_isXB X_InvalidNumber.k G k2 ?_
      walk_at "dz"
      refine evx_isXT (cs := [A_InvalidMachine, A_InvalidSigns, A_UnknownSign, A_UnlikeSigns]) G (fun μ1 Ψ q => ?_) (Nat.le_of_ble_eq_true rfl) ?_
      · walk_at "dx"
        exact q
      walk_at "dz"
      refine ⟨_, _, _, rfl, X_InvalidNumber.k, k3, ?_⟩
      walk_at "dz"
      refine ⟨X_InvalidNumber.k, ?_⟩
      walk_at "dz"
      exact hp
end
theorem small_lt {n : Int} (h0 : 0 ≤ n) (h : n ≤ 10 ^ 31) : n.natAbs < 2 ^ 9000 := by
  have h1 : n.natAbs < 2 ^ 128 := by omega
  exact Nat.lt_of_lt_of_le h1 (Nat.pow_le_pow_right (by decide) (by decide))
theorem p10_9 : (10 : Int) ^ (9 : Int).toNat = 1000000000 := by decide
theorem p10_15 : (10 : Int) ^ (15 : Int).toNat = 1000000000000000 := by decide
theorem p10_14 : (10 : Int) ^ (14 : Int).toNat = 100000000000000 := by decide
theorem cp10 {n : Int} (h0 : 0 ≤ n) (h : n ≤ 100) : CPowB 10 n := ⟨h0, 4, by decide, by omega⟩
/-- an item of a written list at a drawn place -/
theorem pick4 {x : Int} (h0 : 0 ≤ x) (h1 : x < 4) (a b c d : D) : atI [a, b, c, d] x = some (if x = 0 then a else if x = 1 then b else if x = 2 then c else d) := by
  have : x = 0 ∨ x = 1 ∨ x = 2 ∨ x = 3 := by omega
  rcases this with rfl | rfl | rfl | rfl <;> rfl
theorem pick2 {x : Int} (h0 : 0 ≤ x) (h1 : x < 2) (a b : D) : atI [a, b] x = some (if x = 0 then a else b) := by
  have : x = 0 ∨ x = 1 := by omega
  rcases this with rfl | rfl <;> rfl
theorem pick3 {x : Int} (h0 : 0 ≤ x) (h1 : x < 3) (a b c : D) : atI [a, b, c] x = some (if x = 0 then a else if x = 1 then b else c) := by
  have : x = 0 ∨ x = 1 ∨ x = 2 := by omega
  rcases this with rfl | rfl | rfl <;> rfl
theorem mul_in {x y a b : Int} (hx : -a < x ∧ x < a) (hy : -b < y ∧ y < b) : -(a * b) < x * y ∧ x * y < a * b := by
  have h1 : x.natAbs < a.natAbs := by omega
  have h2 : y.natAbs < b.natAbs := by omega
  have h3 : (x * y).natAbs < (a * b).natAbs := by
    rw [Int.natAbs_mul, Int.natAbs_mul]
    exact Nat.mul_lt_mul'' h1 h2
  have h4 : 0 < a * b := Int.mul_pos (by omega) (by omega)
  omega
def R31 (x : Int) : Prop := -(10 ^ 31) < x ∧ x < 10 ^ 31
theorem R31.sz {x : Int} (h : R31 x) : Sz x := by
  have h1 : x.natAbs < 2 ^ 128 := by unfold R31 at h; omega
  exact Nat.lt_of_lt_of_le h1 (Nat.pow_le_pow_right (by decide) (by decide))
theorem r31 {x : Int} (h1 : -(10 ^ 31) < x) (h2 : x < 10 ^ 31) : R31 x := ⟨h1, h2⟩
theorem p10_30 : (10 : Int) ^ (30 : Int).toNat = 1000000000000000000000000000000 := by decide
theorem p10_20 : (10 : Int) ^ (20 : Int).toNat = 100000000000000000000 := by decide
theorem p10_12 : (10 : Int) ^ (12 : Int).toNat = 1000000000000 := by decide
theorem low_bd {x y : Int} (h : y ≠ 0) : ∃ a b : Int, lowD x y = numD a b ∧ a.natAbs ≤ x.natAbs ∧ 0 < b ∧ b.natAbs ≤ y.natAbs := by
  have hc := lowC_ne (x := x) h
  have hs : (lowC x y < 0 ↔ y < 0) := by
    have h0 : 0 < Nat.gcd x.natAbs y.natAbs := Nat.gcd_pos_of_pos_right _ (by omega)
    unfold lowC
    split <;> omega
  obtain ⟨k, hk⟩ := lowC_dvd1 x y
  obtain ⟨m, hm⟩ := lowC_dvd2 x y
  refine ⟨x.fdiv (lowC x y), y.fdiv (lowC x y), rfl, ?_, ?_, ?_⟩
  · generalize lowC x y = c at *
    subst hk
    rw [Int.mul_fdiv_cancel_left _ hc, Int.natAbs_mul]
    exact Nat.le_mul_of_pos_left _ (by omega)
  · generalize lowC x y = c at *
    rw [hm] at h hs ⊢
    rw [Int.mul_fdiv_cancel_left _ hc]
    have hm0 : m ≠ 0 := fun z => h (by rw [z, Int.mul_zero])
    rcases Int.lt_or_gt_of_ne hc with h1 | h1
    · have h2 := hs.mp h1
      rcases Int.lt_or_gt_of_ne hm0 with h3 | h3
      · have := Int.mul_pos_of_neg_of_neg h1 h3; omega
      · exact h3
    · have h2 : ¬ c * m < 0 := fun z => by have := hs.mpr z; omega
      rcases Int.lt_or_gt_of_ne hm0 with h3 | h3
      · have := Int.mul_neg_of_pos_of_neg h1 h3; omega
      · exact h3
  · generalize lowC x y = c at *
    rw [hm, Int.mul_fdiv_cancel_left _ hc, Int.natAbs_mul]
    exact Nat.le_mul_of_pos_left _ (by omega)
def P_num : PD := fun μ ds post _ => ∃ (a g : Addr) (c : Int), ds = [.at a] ∧ Deck a g c μ ∧ c ≤ 900000 ∧
  ∀ μ' x y, R31 x → 0 < y → y < 10 ^ 31 → Deck a g (c + 5) μ' → But a g μ μ' → post μ' (numD x y)
def P_pairs : PD := fun μ ds post _ => ∃ (a g : Addr) (c : Int), ds = [.at a] ∧ Deck a g c μ ∧ c ≤ 800000 ∧
  ∀ μ' x y z u, R31 x → R31 y → R31 z → R31 u → Deck a g (c + 20) μ' → But a g μ μ' → post μ' (.tup [numD x y, numD z u])
def P_wrong : PD := fun μ ds post _ => ∃ (a g : Addr) (c x y : Int), ds = [.at a, numD x y] ∧ R31 x ∧ R31 y ∧ Deck a g c μ ∧ c ≤ 900000 ∧
  ∀ μ' x' y', Sz x' → Sz y' → Deck a g (c + 3) μ' → But a g μ μ' → post μ' (numD x' y')
section
variable {P : Program} {w : World} {K : PySem.W.Frag} {mg : Str → Option Value} {base : Heap}
theorem c_num (h : Std K mg "_law_number" s__law_number) (C__law_draw : Cal P w K mg base CX0 1 "_law_draw" s__law_draw ["_law_deck_here", "_law_limit"] (spD K 2 P_draw)) (C__law_pair : Cal P w K mg base CX0 2 "_law_pair" s__law_pair ["_law_above", "_law_below"] (spD K 2 P_lowest)) : Cal P w K mg base CX0 3 "_law_number" s__law_number ["_law_deck_here"] (spD K 1 P_num) := by
  refine cal0 h sc__law_number (fun _ _ _ _ _ _ us hl => match us, hl with | [_], _ => rfl) fun f cdv A outer s H E hr => ⟨_,
    have hu64 := hr.units; (pss_cons (ps_set (i := 1) sc__law_number.nd rfl (Or.inl rfl) (pe_ix ix_seq (pe_lst (pa_cons pe_int (pa_cons pe_int (pa_cons (pe_op op_powB pe_int pe_int) (pa_cons (pe_op op_powB pe_int pe_int) pa_nil))))) (pe_c C__law_draw hr (by first | decide | omega) (pa_cons (pv 0) (pa_cons pe_int pa_nil))) (fun _ _ => rfl)))
 (pss_cons (ps_set (i := 2) sc__law_number.nd rfl (Or.inl rfl) (pe_op op_addU pe_int (pe_c C__law_draw hr (by first | decide | omega) (pa_cons (pv 0) (pa_cons (pe_ix ix_seq (pe_lst (pa_cons pe_int (pa_cons pe_int (pa_cons (pe_op op_sub (pv 1) pe_int) pa_nil)))) (pe_c C__law_draw hr (by first | decide | omega) (pa_cons (pv 0) (pa_cons pe_int pa_nil))) (fun _ _ => rfl)) pa_nil)))))
 (pss_one (ps_ret (pe_c C__law_pair hr (by first | decide | omega) (pa_cons (pe_op op_sub (pe_c C__law_draw hr (by first | decide | omega) (pa_cons (pv 0) (pa_cons (pv 1) pa_nil))) (pe_op op_divB (pv 1) pe_int)) (pa_cons (pv 2) pa_nil))))))), fun μ ds post exc hl hP => ?_⟩
  obtain ⟨a, g, c, rfl, D0, hc, hp⟩ := hP
  have q9 := cp10 (n := 9) (by decide) (by decide)
  have q30 := cp10 (n := 30) (by decide) (by decide)
  walk_at "d0"
  walk_at "dx"
  refine evx_lst ?_
  walk_at "dx"
  rw [p10_9, p10_30]
  refine ⟨a, g, c, 4, rfl, D0, by omega, by decide, by decide, fun μ1 y hy0 hy1 D1 B1 => ?_⟩
  refine opx_ix (x := .lst _) rfl (pick4 hy0 hy1 _ _ _ _) ?_
  obtain ⟨gr, hgr, hg0, hg1⟩ : ∃ gr : Int, (if y = 0 then D.int 4 else if y = 1 then .int 100 else if y = 2 then .int 1000000000 else .int 1000000000000000000000000000000) = .int gr ∧ 4 ≤ gr ∧ gr ≤ 1000000000000000000000000000000 := by
    split
    · exact ⟨_, rfl, by decide, by decide⟩
    · split
      · exact ⟨_, rfl, by decide, by decide⟩
      · split <;> exact ⟨_, rfl, by decide, by decide⟩
  rw [hgr]
  walk_at "dx"
  refine evx_lst ?_
  walk_at "dx"
  refine ⟨a, g, _, 3, rfl, D1, by omega, by decide, by decide, fun μ2 z hz0 hz1 D2 B2 => ?_⟩
  refine opx_ix (x := .lst _) rfl (pick3 hz0 hz1 _ _ _) ?_
  have e : (if z = 0 then D.int 1 else if z = 1 then .int 6 else .int (gr - 1)) = .int (if z = 0 then 1 else if z = 1 then 6 else gr - 1) := by split <;> (try split) <;> rfl
  rw [e]
  walk_at "dx"
  have l0 : 0 < (if z = 0 then (1 : Int) else if z = 1 then 6 else gr - 1) ∧ (if z = 0 then (1 : Int) else if z = 1 then 6 else gr - 1) ≤ 1000000000000000000000000000000 := by split <;> (try split) <;> omega
  generalize (if z = 0 then (1 : Int) else if z = 1 then 6 else gr - 1) = lim at l0 ⊢
  refine ⟨a, g, _, lim, rfl, D2, by omega, l0.1, small_lt (by omega) (by omega), fun μ3 be hb0 hb1 D3 B3 => ?_⟩
  walk_at "dx"
  refine ⟨a, g, _, gr, rfl, D3, by omega, by omega, small_lt (by omega) (by omega), fun μ4 v hv0 hv1 D4 B4 => ?_⟩
  walk_at "dx"
  have hf : gr.fdiv 2 = gr / 2 := Int.fdiv_eq_ediv_of_nonneg _ (by decide)
  have hne : 1 + be ≠ 0 := by omega
  obtain ⟨x, y, el, hx, hy, hy2⟩ := low_bd (x := v - gr.fdiv 2) hne
  refine ⟨_, _, rfl, hne, small_lt (by omega) (by omega), ?_⟩
  rw [el]
  exact hp _ _ _ (r31 (by omega) (by omega)) hy (by omega) (D4.mono (by omega)) (((B1.trans B2).trans B3).trans B4)
theorem c_two (h : Std K mg "_law_two" s__law_two) (C__law_draw : Cal P w K mg base CX0 1 "_law_draw" s__law_draw ["_law_deck_here", "_law_limit"] (spD K 2 P_draw)) (C__law_pair : Cal P w K mg base CX0 2 "_law_pair" s__law_pair ["_law_above", "_law_below"] (spD K 2 P_lowest)) (C__law_number : Cal P w K mg base CX0 3 "_law_number" s__law_number ["_law_deck_here"] (spD K 1 P_num)) : Cal P w K mg base CX0 4 "_law_two" s__law_two ["_law_deck_here"] (spD K 1 P_pairs) := by
  refine cal0 h sc__law_two (fun _ _ _ _ _ _ us hl => match us, hl with | [_], _ => rfl) fun f cdv A outer s H E hr => ⟨_,
    have hu64 := hr.units; (pss_cons (ps_par (i := 1) (j := 2) rfl sc__law_two.nd rfl rfl (by decide) rfl rfl (pa_cons (pe_c C__law_number hr (by first | decide | omega) (pa_cons (pv 0) pa_nil)) (pa_cons (pe_c C__law_number hr (by first | decide | omega) (pa_cons (pv 0) pa_nil)) pa_nil)) (by rfl))
 (pss_cons (ps_set (i := 3) sc__law_two.nd rfl (Or.inl rfl) (pe_c C__law_draw hr (by first | decide | omega) (pa_cons (pv 0) (pa_cons pe_int pa_nil))))
 (pss_cons (ps_if (pt_cmpR (op_eqU hu64) (pv 3) pe_int (nomark _))
 (pss_one (ps_ret (pe_tup (pa_cons (pv 1) (pa_cons (pv 1) pa_nil)))))
 pss_nil)
 (pss_cons (ps_if (pt_cmpR (op_eqU hu64) (pv 3) pe_int (nomark _))
 (pss_one (ps_ret (pe_tup (pa_cons (pv 1) (pa_cons (pe_tup (pa_cons (pe_op op_sub pe_int (pe_ix ix_seq (pv 1) pe_int (fun _ _ => rfl))) (pa_cons (pe_ix ix_seq (pv 1) pe_int (fun _ _ => rfl)) pa_nil))) pa_nil)))))
 pss_nil)
 (pss_cons (ps_if (pt_cmpR (op_eqU hu64) (pv 3) pe_int (nomark _))
 (pss_one (ps_ret (pe_tup (pa_cons (pv 1) (pa_cons (pe_tup (pa_cons pe_int (pa_cons pe_int pa_nil))) pa_nil)))))
 pss_nil)
 (pss_cons (ps_if (pt_cmpR (op_eqU hu64) (pv 3) pe_int (nomark _))
 (pss_one (ps_ret (pe_tup (pa_cons (pe_tup (pa_cons pe_int (pa_cons pe_int pa_nil))) (pa_cons (pv 2) pa_nil)))))
 pss_nil)
 (pss_cons (ps_if (PW.pt (pw_and (pt_cmpR (op_eqU hu64) (pv 3) pe_int (nomark _)) (pw_and1 (pt_cmpR (op_neU hu64) (pe_ix ix_seq (pv 1) pe_int (fun _ _ => rfl)) pe_int (nomark _)))))
 (pss_one (ps_ret (pe_tup (pa_cons (pv 1) (pa_cons (pe_c C__law_pair hr (by first | decide | omega) (pa_cons (pe_ix ix_seq (pv 1) pe_int (fun _ _ => rfl)) (pa_cons (pe_ix ix_seq (pv 1) pe_int (fun _ _ => rfl)) pa_nil))) pa_nil)))))
 pss_nil)
 (pss_cons (ps_if (pt_cmpR (op_eqU hu64) (pv 3) pe_int (nomark _))
 (pss_one (ps_ret (pe_tup (pa_cons (pv 1) (pa_cons (pe_c C__law_pair hr (by first | decide | omega) (pa_cons (pe_ix ix_seq (pv 2) pe_int (fun _ _ => rfl)) (pa_cons (pe_ix ix_seq (pv 1) pe_int (fun _ _ => rfl)) pa_nil))) pa_nil)))))
 pss_nil)
 (pss_one (ps_ret (pe_tup (pa_cons (pv 1) (pa_cons (pv 2) pa_nil))))))))))))), fun μ ds post exc hl hP => ?_⟩
  obtain ⟨a, g, c, rfl, D0, hc, hp⟩ := hP
  have r0 : R31 0 := r31 (by decide) (by decide)
  have r1 : R31 1 := r31 (by decide) (by decide)
  walk_at "d0"
  walk_at "dx"
  refine ⟨a, g, c, rfl, D0, by omega, fun μ1 x y hx hy hy1 D1 B1 => ?_⟩
  have ry : R31 y := r31 (by omega) hy1
  walk_at "dx"
  refine ⟨a, g, _, rfl, D1, by omega, fun μ2 z u hz hu hu1 D2 B2 => ?_⟩
  have ru : R31 u := r31 (by omega) hu1
  walk_at "dx"
  refine ⟨a, g, _, 8, rfl, D2, by omega, by decide, by decide, fun μ3 kd _ _ D3 B3 => ?_⟩
  have B := (B1.trans B2).trans B3
  have D4 : Deck a g (c + 20) μ3 := D3.mono (by omega)
  unfold numD at *
  walk_at "dx"
  refine ifD (fun h0 => ?_) (fun k0 => ?_)
  · walk_at "dx"
    exact hp _ _ _ _ _ hx ry hx ry D4 B
  walk_at "dx"
  refine ifD (fun h0 => ?_) (fun k1 => ?_)
  · walk_at "dx"
    exact hp _ _ _ _ _ hx ry (by unfold R31 at *; omega) ry D4 B
  walk_at "dx"
  refine ifD (fun h0 => ?_) (fun k2 => ?_)
  · walk_at "dx"
    exact hp _ _ _ _ _ hx ry r0 r1 D4 B
  walk_at "dx"
  refine ifD (fun h0 => ?_) (fun k3 => ?_)
  · walk_at "dx"
    exact hp _ _ _ _ _ r0 r1 hz ru D4 B
  walk_at "dx"
  refine ifD (fun h4 => ?_) (fun k4 => ?_)
  · walk_at "dz"
    refine ifN (fun hx0 => ?_) (fun hx0 => ?_)
    · walk_at "dz"
      obtain ⟨p, q, el, l1, l2, l3⟩ := low_bd (x := y) (y := x) hx0
      refine ⟨_, _, rfl, hx0, lt_9000 hx.sz (by decide), ?_⟩
      walk_at "dz"
      rw [el]
      exact hp _ _ _ _ _ hx ry (by unfold R31 at *; omega) (by unfold R31 at *; omega) D4 B
    walk_at "dz"
    refine ifD (fun h5 => ?_) (fun k5 => ?_)
    · walk_at "dz"
      obtain ⟨p, q, el, l1, l2, l3⟩ := low_bd (x := z) (y := y) (by omega)
      refine ⟨_, _, rfl, by omega, small_lt (by omega) (by omega), ?_⟩
      walk_at "dz"
      rw [el]
      exact hp _ _ _ _ _ hx ry (by unfold R31 at *; omega) (by unfold R31 at *; omega) D4 B
    · walk_at "dz"
      exact hp _ _ _ _ _ hx ry hz ru D4 B
  · walk_at "dz"
    refine ifD (fun h5 => ?_) (fun k5 => ?_)
    · walk_at "dz"
      obtain ⟨p, q, el, l1, l2, l3⟩ := low_bd (x := z) (y := y) (by omega)
      refine ⟨_, _, rfl, by omega, small_lt (by omega) (by omega), ?_⟩
      walk_at "dz"
      rw [el]
      exact hp _ _ _ _ _ hx ry (by unfold R31 at *; omega) (by unfold R31 at *; omega) D4 B
    · walk_at "dz"
      exact hp _ _ _ _ _ hx ry hz ru D4 B
theorem c_wrong (h : Std K mg "_law_wrong" s__law_wrong) (C__law_draw : Cal P w K mg base CX0 1 "_law_draw" s__law_draw ["_law_deck_here", "_law_limit"] (spD K 2 P_draw)) : Cal P w K mg base CX0 2 "_law_wrong" s__law_wrong ["_law_deck_here", "_law_one"] (spD K 2 P_wrong) := by
  refine cal0 h sc__law_wrong (fun _ _ _ _ _ _ us hl => match us, hl with | [_, _], _ => rfl) fun f cdv A outer s H E hr => ⟨_,
    have hu64 := hr.units; (pss_cons (ps_set (i := 2) sc__law_wrong.nd rfl (Or.inl rfl) (pe_c C__law_draw hr (by first | decide | omega) (pa_cons (pv 0) (pa_cons pe_int pa_nil))))
 (pss_cons (ps_if (pt_cmpR (op_eqU hu64) (pv 2) pe_int (nomark _))
 (pss_one (ps_ret (pe_tup (pa_cons (pe_ix ix_seq (pv 1) pe_int (fun _ _ => rfl)) (pa_cons pe_int pa_nil)))))
 pss_nil)
 (pss_cons (ps_if (pt_cmpR (op_eqU hu64) (pv 2) pe_int (nomark _))
 (pss_one (ps_ret (pe_tup (pa_cons (pe_ix ix_seq (pv 1) pe_int (fun _ _ => rfl)) (pa_cons (pe_op op_sub pe_int (pe_ix ix_seq (pv 1) pe_int (fun _ _ => rfl))) pa_nil)))))
 pss_nil)
 (pss_cons (ps_if (pt_cmpR (op_eqU hu64) (pv 2) pe_int (nomark _))
 (pss_one (ps_ret (pe_tup (pa_cons pe_int (pa_cons (pe_op op_addU pe_int (pe_c C__law_draw hr (by first | decide | omega) (pa_cons (pv 0) (pa_cons (pe_op op_powB pe_int pe_int) pa_nil)))) pa_nil)))))
 pss_nil)
 (pss_cons (ps_if (pt_cmpR (op_eqU hu64) (pv 2) pe_int (nomark _))
 (pss_one (ps_ret (pe_tup (pa_cons (pe_ix ix_seq (pe_lst (pa_cons pe_int (pa_cons pe_int (pa_cons (pe_un un_neg pe_int) pa_nil)))) (pe_c C__law_draw hr (by first | decide | omega) (pa_cons (pv 0) (pa_cons pe_int pa_nil))) (fun _ _ => rfl)) (pa_cons (pe_op op_sub pe_int (pe_c C__law_draw hr (by first | decide | omega) (pa_cons (pv 0) (pa_cons pe_int pa_nil)))) pa_nil)))))
 pss_nil)
 (pss_cons (ps_set (i := 3) sc__law_wrong.nd rfl (Or.inl rfl) (pe_op op_addU pe_int (pe_c C__law_draw hr (by first | decide | omega) (pa_cons (pv 0) (pa_cons (pe_op op_powB pe_int pe_int) pa_nil)))))
 (pss_one (ps_ret (pe_tup (pa_cons (pe_op op_mulU (pe_op op_divB (pe_ix ix_seq (pv 1) pe_int (fun _ _ => rfl)) (pe_op op_powB pe_int pe_int)) (pv 3)) (pa_cons (pe_op op_mulU (pe_op op_addU pe_int (pe_op op_divB (pe_ix ix_seq (pv 1) pe_int (fun _ _ => rfl)) (pe_op op_powB pe_int pe_int))) (pv 3)) pa_nil))))))))))), fun μ ds post exc hl hP => ?_⟩
  obtain ⟨a, g, c, x, y, rfl, hx, hy, D0, hc, hp⟩ := hP
  have q20 := cp10 (n := 20) (by decide) (by decide)
  have q12 := cp10 (n := 12) (by decide) (by decide)
  have q15 := cp10 (n := 15) (by decide) (by decide)
  have sz0 : ∀ x : Int, -(10 ^ 31) < x → x < 10 ^ 31 → Sz x := fun x h1 h2 => (r31 h1 h2).sz
  unfold R31 at hx hy
  unfold numD at *
  walk_at "d0"
  walk_at "dx"
  refine ⟨a, g, c, 5, rfl, D0, by omega, by decide, by decide, fun μ1 kd _ _ D1 B1 => ?_⟩
  walk_at "dx"
  refine ifD (fun h0 => ?_) (fun k0 => ?_)
  · walk_at "dx"
    exact hp _ _ _ (sz0 _ (by omega) (by omega)) (sz0 _ (by omega) (by omega)) (D1.mono (by omega)) B1
  walk_at "dx"
  refine ifD (fun h0 => ?_) (fun k1 => ?_)
  · walk_at "dx"
    exact hp _ _ _ (sz0 _ (by omega) (by omega)) (sz0 _ (by omega) (by omega)) (D1.mono (by omega)) B1
  walk_at "dx"
  refine ifD (fun h0 => ?_) (fun k2 => ?_)
  · walk_at "dx"
    rw [p10_20]
    refine ⟨a, g, _, _, rfl, D1, by omega, by decide, small_lt (by omega) (by omega), fun μ2 v h20 h21 D2 B2 => ?_⟩
    walk_at "dx"
    exact hp _ _ _ (sz0 _ (by omega) (by omega)) (sz0 _ (by omega) (by omega)) (D2.mono (by omega)) (B1.trans B2)
  walk_at "dx"
  refine ifD (fun h0 => ?_) (fun k3 => ?_)
  · walk_at "dx"
    refine evx_lst ?_
    walk_at "dx"
    refine ⟨a, g, _, 3, rfl, D1, by omega, by decide, by decide, fun μ2 z hz0 hz1 D2 B2 => ?_⟩
    refine opx_ix (x := .lst _) rfl (pick3 hz0 hz1 _ _ _) ?_
    have e : (if z = 0 then D.int 0 else if z = 1 then .int 1 else .int (-1)) = .int (if z = 0 then 0 else if z = 1 then 1 else -1) := by split <;> (try split) <;> rfl
    rw [e]
    walk_at "dx"
    refine ⟨a, g, _, 2, rfl, D2, by omega, by decide, by decide, fun μ3 v h20 h21 D3 B3 => ?_⟩
    walk_at "dx"
    exact hp _ _ _ (by split <;> (try split) <;> exact sz0 _ (by omega) (by omega)) (sz0 _ (by omega) (by omega)) (D3.mono (by omega)) ((B1.trans B2).trans B3)
  walk_at "dx"
  rw [p10_12]
  refine ⟨a, g, _, _, rfl, D1, by omega, by decide, small_lt (by omega) (by omega), fun μ2 v h20 h21 D2 B2 => ?_⟩
  have e1 : x.fdiv 1000000000000000 = x / 1000000000000000 := Int.fdiv_eq_ediv_of_nonneg _ (by decide)
  have e2 : y.fdiv 1000000000000000 = y / 1000000000000000 := Int.fdiv_eq_ediv_of_nonneg _ (by decide)
  have m1 : CMulB (x.fdiv 1000000000000000) (2 + v) := ⟨64, 64, by omega, by omega, by decide⟩
  have m2 : CMulB (1 + y.fdiv 1000000000000000) (2 + v) := ⟨64, 64, by omega, by omega, by decide⟩
  have v1 := mul_in (x := x.fdiv 1000000000000000) (y := 2 + v) (a := 100000000000000000) (b := 10000000000000) ⟨by omega, by omega⟩ ⟨by omega, by omega⟩
  have v2 := mul_in (x := 1 + y.fdiv 1000000000000000) (y := 2 + v) (a := 100000000000000000) (b := 10000000000000) ⟨by omega, by omega⟩ ⟨by omega, by omega⟩
  walk_at "dx"
  try rw [p10_15]
  walk_at "dx"
  try rw [p10_15]
  walk_at "dx"
  exact hp _ _ _ (sz0 _ (by omega) (by omega)) (sz0 _ (by omega) (by omega)) (D2.mono (by omega)) (B1.trans B2)
end
theorem due2_no1 {k : Nat} {a b c d : Int} (e : isNum a b = false) : due2 k a b c d = .tup [.bl false, numD a b] := by unfold due2; rw [e]; rfl
theorem due2_no2 {k : Nat} {a b c d : Int} (e : isNum a b = true) (e2 : isNum c d = false) : due2 k a b c d = .tup [.bl false, numD c d] := by unfold due2; rw [e, e2]; rfl
theorem due2_q0 {a b c d : Int} (e : isNum a b = true) (e2 : isNum c d = true) (h : c = 0) : due2 2 a b c d = .tup [.bl false, numD c d] := by unfold due2; rw [e, e2, if_pos rfl, if_pos rfl, if_pos rfl, if_pos h]
theorem due2_q {a b c d : Int} (e : isNum a b = true) (e2 : isNum c d = true) (h : c ≠ 0) : due2 2 a b c d = .tup [.bl true, lowD (a * d) (b * c)] := by unfold due2; rw [e, e2, if_pos rfl, if_pos rfl, if_pos rfl, if_neg h]
theorem due2_0 {a b c d : Int} (e : isNum a b = true) (e2 : isNum c d = true) : due2 0 a b c d = .tup [.bl true, sumF a b c d] := by unfold due2; rw [e, e2, if_pos rfl, if_pos rfl]; rfl
theorem due2_1 {a b c d : Int} (e : isNum a b = true) (e2 : isNum c d = true) : due2 1 a b c d = .tup [.bl true, prodF a b c d] := by unfold due2; rw [e, e2, if_pos rfl, if_pos rfl]; rfl
theorem due2_3 {a b c d : Int} (e : isNum a b = true) (e2 : isNum c d = true) : due2 3 a b c d = .tup [.bl true, .lst [sumF a b c d, prodF a b c d]] := by unfold due2; rw [e, e2, if_pos rfl, if_pos rfl]; rfl
theorem dueP_no {a b t : Int} (e : isNum a b = false) : dueP a b t = .tup [.bl false, numD a b] := by unfold dueP; rw [e]; rfl
theorem dueP_neg {a b t : Int} (e : isNum a b = true) (h : t < 0) : dueP a b t = .tup [.bl false, .int t] := by unfold dueP; rw [e, if_pos rfl, if_pos h]
theorem dueP_ok {a b t : Int} (e : isNum a b = true) (h : ¬ t < 0) : dueP a b t = .tup [.bl true, numD (a ^ t.toNat) (b ^ t.toNat)] := by unfold dueP; rw [e, if_pos rfl, if_neg h]
section
variable {P : Program} {w : World} {K : PySem.W.Frag} {mg : Str → Option Value} {base : Heap}
theorem c_isnum (h : Std K mg "_law_is_number" s__law_is_number) (C__law_gcd : Cal P w K mg base CX0 1 "_law_gcd" s__law_gcd ["_law_one", "_law_other"] (spD K 2 P_gcd)) : Cal P w K mg base CX0 2 "_law_is_number" s__law_is_number ["_law_one"] (spD K 1 P_isnum) := by
  refine cal0 h sc__law_is_number (fun _ _ _ _ _ _ us hl => match us, hl with | [_], _ => rfl) fun f cdv A outer s H E hr => ⟨_,
    have hu64 := hr.units; (pss_one (ps_ret (pe_and (pe_cmpR op_ge (pe_ix ix_seq (pv 0) pe_int (fun _ _ => rfl)) pe_int (nomark _)) (pe_one (pe_cmpR (op_eqU hu64) (pe_c C__law_gcd hr (by first | decide | omega) (pa_cons (pe_ix ix_seq (pv 0) pe_int (fun _ _ => rfl)) (pa_cons (pe_ix ix_seq (pv 0) pe_int (fun _ _ => rfl)) pa_nil))) pe_int (nomark _)))))), fun μ ds post exc hl hP => ?_⟩
  obtain ⟨a, b, rfl, hp⟩ := hP
  unfold numD isNum at *
  walk_at "d0"
  walk_at "dx"
  refine ifD (fun hb => ?_) (fun hb => ?_)
  · have hb' : 1 ≤ b := hb
    rw [decide_eq_true hb', Bool.true_and] at hp
    walk_at "dx"
    refine ⟨a, b, rfl, ?_⟩
    walk_at "dx"
    exact hp
  · have hb' : ¬ 1 ≤ b := hb
    rw [decide_eq_false hb', Bool.false_and] at hp
    exact hp
theorem c_due (h : Std K mg "_law_due" s__law_due) (n_range : mg "range" = none) (C__law_is_number : Cal P w K mg base CX0 2 "_law_is_number" s__law_is_number ["_law_one"] (spD K 1 P_isnum)) (C__law_pair : Cal P w K mg base CX0 2 "_law_pair" s__law_pair ["_law_above", "_law_below"] (spD K 2 P_lowest)) : Cal P w K mg base CX0 3 "_law_due" s__law_due ["_law_name", "_law_one", "_law_other"] (spD K 3 P_told) := by
  refine cal0 h sc__law_due (fun _ _ _ _ _ _ us hl => match us, hl with | [_, _, _], _ => rfl) fun f cdv A outer s H E hr => ⟨_,
    have hu64 := hr.units; (pss_cons (ps_if (pt_not (pt_val (pe_c C__law_is_number hr (by first | decide | omega) (pa_cons (pv 1) pa_nil))))
 (pss_one (ps_ret (pe_tup (pa_cons pe_bl (pa_cons (pv 1) pa_nil)))))
 pss_nil)
 (pss_cons (ps_if (pt_cmpR (op_eqU hu64) (pe_slice sl_str (pv 0) po_none (po_some pe_int)) pe_str (nomark _))
 (pss_cons (ps_if (pt_cmpR op_lt (pv 2) pe_int (nomark _))
 (pss_one (ps_ret (pe_tup (pa_cons pe_bl (pa_cons (pv 2) pa_nil)))))
 pss_nil)
 (pss_cons (ps_set (i := 3) sc__law_due.nd rfl (Or.inl rfl) (pe_tup (pa_cons pe_int (pa_cons pe_int pa_nil))))
 (pss_cons (ps_for PassesOwn.never rfl (pi_range1 rfl n_range (pa_cons (pv 2) pa_nil)) (pg_name (i := 4) sc__law_due.nd rfl (Or.inl rfl))
 (pss_one (ps_set (i := 3) sc__law_due.nd rfl (Or.inl rfl) (pe_tup (pa_cons (pe_op op_mulU (pe_ix ix_seq (pv 3) pe_int (fun _ _ => rfl)) (pe_ix ix_seq (pv 1) pe_int (fun _ _ => rfl))) (pa_cons (pe_op op_mulU (pe_ix ix_seq (pv 3) pe_int (fun _ _ => rfl)) (pe_ix ix_seq (pv 1) pe_int (fun _ _ => rfl))) pa_nil))))))
 (pss_one (ps_ret (pe_tup (pa_cons pe_bl (pa_cons (pv 3) pa_nil))))))))
 pss_nil)
 (pss_cons (ps_if (pt_not (pt_val (pe_c C__law_is_number hr (by first | decide | omega) (pa_cons (pv 2) pa_nil))))
 (pss_one (ps_ret (pe_tup (pa_cons pe_bl (pa_cons (pv 2) pa_nil)))))
 pss_nil)
 (pss_cons (ps_if (pt_cmpR (op_eqU hu64) (pe_slice sl_str (pv 0) po_none (po_some pe_int)) pe_str (nomark _))
 (pss_cons (ps_if (pt_cmpR (op_eqU hu64) (pe_ix ix_seq (pv 2) pe_int (fun _ _ => rfl)) pe_int (nomark _))
 (pss_one (ps_ret (pe_tup (pa_cons pe_bl (pa_cons (pv 2) pa_nil)))))
 pss_nil)
 (pss_one (ps_ret (pe_tup (pa_cons pe_bl (pa_cons (pe_c C__law_pair hr (by first | decide | omega) (pa_cons (pe_op op_mulU (pe_ix ix_seq (pv 1) pe_int (fun _ _ => rfl)) (pe_ix ix_seq (pv 2) pe_int (fun _ _ => rfl))) (pa_cons (pe_op op_mulU (pe_ix ix_seq (pv 1) pe_int (fun _ _ => rfl)) (pe_ix ix_seq (pv 2) pe_int (fun _ _ => rfl))) pa_nil))) pa_nil))))))
 pss_nil)
 (pss_cons (ps_set (i := 5) sc__law_due.nd rfl (Or.inl rfl) (pe_c C__law_pair hr (by first | decide | omega) (pa_cons (pe_op op_addU (pe_op op_mulU (pe_ix ix_seq (pv 1) pe_int (fun _ _ => rfl)) (pe_ix ix_seq (pv 2) pe_int (fun _ _ => rfl))) (pe_op op_mulU (pe_ix ix_seq (pv 2) pe_int (fun _ _ => rfl)) (pe_ix ix_seq (pv 1) pe_int (fun _ _ => rfl)))) (pa_cons (pe_op op_mulU (pe_ix ix_seq (pv 1) pe_int (fun _ _ => rfl)) (pe_ix ix_seq (pv 2) pe_int (fun _ _ => rfl))) pa_nil))))
 (pss_cons (ps_set (i := 6) sc__law_due.nd rfl (Or.inl rfl) (pe_c C__law_pair hr (by first | decide | omega) (pa_cons (pe_op op_mulU (pe_ix ix_seq (pv 1) pe_int (fun _ _ => rfl)) (pe_ix ix_seq (pv 2) pe_int (fun _ _ => rfl))) (pa_cons (pe_op op_mulU (pe_ix ix_seq (pv 1) pe_int (fun _ _ => rfl)) (pe_ix ix_seq (pv 2) pe_int (fun _ _ => rfl))) pa_nil))))
 (pss_cons (ps_if (pt_cmpR (op_eqU hu64) (pv 0) pe_str (nomark _))
 (pss_one (ps_ret (pe_tup (pa_cons pe_bl (pa_cons (pv 5) pa_nil)))))
 pss_nil)
 (pss_cons (ps_if (pt_cmpR (op_eqU hu64) (pv 0) pe_str (nomark _))
 (pss_one (ps_ret (pe_tup (pa_cons pe_bl (pa_cons (pv 6) pa_nil)))))
 pss_nil)
 (pss_one (ps_ret (pe_tup (pa_cons pe_bl (pa_cons (pe_lst (pa_cons (pv 5) (pa_cons (pv 6) pa_nil))) pa_nil))))))))))))), fun μ ds post exc hl hP => ?_⟩
  rcases hP with ⟨nm, k, a, b, c, d, hn, rfl, sa, sb, sc, sd, hp⟩ | ⟨nm, a, b, t, hn, rfl, sa, sb, ht, hp⟩
  · have m1 := cmul_sz sa sd
    have m2 := cmul_sz sc sb
    have m3 := cmul_sz sb sd
    have m4 := cmul_sz sa sc
    have m5 := cmul_sz sb sc
    rcases hn with ⟨rfl, rfl⟩ | ⟨rfl, rfl⟩ | ⟨rfl, rfl⟩ | ⟨rfl, rfl⟩ | ⟨rfl, rfl⟩
    · walk_at "d0"
      walk_at "dz"
      refine ⟨a, b, rfl, ?_⟩
      cases e1 : isNum a b with
      | false =>
        rw [due2_no1 e1] at hp
        walk_at "dz"
        exact hp
      | true =>
        walk_at "dz"
        refine ⟨c, d, rfl, ?_⟩
        cases e2 : isNum c d with
        | false =>
          rw [due2_no2 e1 e2] at hp
          walk_at "dz"
          exact hp
        | true =>
          have pb := isNum_pos e1
          have pd := isNum_pos e2
          walk_at "dz"
          refine ⟨_, _, rfl, Int.ne_of_gt (Int.mul_pos pb pd), lt_9000 (sz_mul sb sd) (by decide), ?_⟩
          walk_at "dz"
          refine ⟨_, _, rfl, Int.ne_of_gt (Int.mul_pos pb pd), lt_9000 (sz_mul sb sd) (by decide), ?_⟩
          walk_at "dz"
          rw [due2_0 e1 e2] at hp
          exact hp

    · walk_at "d0"
      walk_at "dz"
      refine ⟨a, b, rfl, ?_⟩
      cases e1 : isNum a b with
      | false =>
        rw [due2_no1 e1] at hp
        walk_at "dz"
        exact hp
      | true =>
        walk_at "dz"
        refine ⟨c, d, rfl, ?_⟩
        cases e2 : isNum c d with
        | false =>
          rw [due2_no2 e1 e2] at hp
          walk_at "dz"
          exact hp
        | true =>
          have pb := isNum_pos e1
          have pd := isNum_pos e2
          walk_at "dz"
          refine ⟨_, _, rfl, Int.ne_of_gt (Int.mul_pos pb pd), lt_9000 (sz_mul sb sd) (by decide), ?_⟩
          walk_at "dz"
          refine ⟨_, _, rfl, Int.ne_of_gt (Int.mul_pos pb pd), lt_9000 (sz_mul sb sd) (by decide), ?_⟩
          walk_at "dz"
          rw [due2_1 e1 e2] at hp
          exact hp

    · walk_at "d0"
      walk_at "dz"
      refine ⟨a, b, rfl, ?_⟩
      cases e1 : isNum a b with
      | false =>
        rw [due2_no1 e1] at hp
        walk_at "dz"
        exact hp
      | true =>
        walk_at "dz"
        refine ⟨c, d, rfl, ?_⟩
        cases e2 : isNum c d with
        | false =>
          rw [due2_no2 e1 e2] at hp
          walk_at "dz"
          exact hp
        | true =>
          have pb := isNum_pos e1
          have pd := isNum_pos e2
          walk_at "dz"
          refine ifD (fun e3 => ?_) (fun e3 => ?_)
          · rw [due2_q0 e1 e2 e3] at hp
            walk_at "dz"
            exact hp
          · rw [due2_q e1 e2 e3] at hp
            walk_at "dz"
            exact ⟨_, _, rfl, Int.mul_ne_zero (Int.ne_of_gt pb) e3, lt_9000 (sz_mul sb sc) (by decide), by walk_at "dz"; exact hp⟩

    · walk_at "d0"
      walk_at "dz"
      refine ⟨a, b, rfl, ?_⟩
      cases e1 : isNum a b with
      | false =>
        rw [due2_no1 e1] at hp
        walk_at "dz"
        exact hp
      | true =>
        walk_at "dz"
        refine ⟨c, d, rfl, ?_⟩
        cases e2 : isNum c d with
        | false =>
          rw [due2_no2 e1 e2] at hp
          walk_at "dz"
          exact hp
        | true =>
          have pb := isNum_pos e1
          have pd := isNum_pos e2
          walk_at "dz"
          refine ⟨_, _, rfl, Int.ne_of_gt (Int.mul_pos pb pd), lt_9000 (sz_mul sb sd) (by decide), ?_⟩
          walk_at "dz"
          refine ⟨_, _, rfl, Int.ne_of_gt (Int.mul_pos pb pd), lt_9000 (sz_mul sb sd) (by decide), ?_⟩
          walk_at "dz"
          refine evx_lst ?_
          walk_at "dz"
          rw [due2_3 e1 e2] at hp
          exact hp

    · walk_at "d0"
      walk_at "dz"
      refine ⟨a, b, rfl, ?_⟩
      cases e1 : isNum a b with
      | false =>
        rw [due2_no1 e1] at hp
        walk_at "dz"
        exact hp
      | true =>
        walk_at "dz"
        refine ⟨c, d, rfl, ?_⟩
        cases e2 : isNum c d with
        | false =>
          rw [due2_no2 e1 e2] at hp
          walk_at "dz"
          exact hp
        | true =>
          have pb := isNum_pos e1
          have pd := isNum_pos e2
          walk_at "dz"
          refine ifD (fun e3 => ?_) (fun e3 => ?_)
          · rw [due2_q0 e1 e2 e3] at hp
            walk_at "dz"
            exact hp
          · rw [due2_q e1 e2 e3] at hp
            walk_at "dz"
            exact ⟨_, _, rfl, Int.mul_ne_zero (Int.ne_of_gt pb) e3, lt_9000 (sz_mul sb sc) (by decide), by walk_at "dz"; exact hp⟩

  · rcases hn with rfl | rfl
    all_goals
      walk_at "d0"
      walk_at "dz"
      refine ⟨a, b, rfl, ?_⟩
      cases e1 : isNum a b with
      | false =>
        rw [dueP_no e1] at hp
        walk_at "dz"
        exact hp
      | true =>
        unfold numD at *
        walk_at "dz"
        refine ifD (fun e => ?_) (fun e => ?_)
        · rw [dueP_neg e1 e] at hp
          walk_at "dz"
          exact hp
        · rw [dueP_ok e1 e] at hp
          walk_at "dz"
          refine gs_for (itx_range1 ?_)
          walk_at "dx"
          refine ⟨⟨by omega, by omega⟩, ?_⟩
          refine ⟨fun i μ' ρ' => μ' = μ ∧ i ≤ 40 ∧ ∃ (s : D) (v : Option D), ρ' = [some s, some (.tup [.int a, .int b]), some (.int t), some (.tup [.int (a ^ i), .int (b ^ i)]), v, none, none], ⟨rfl, by decide, _, none, by rw [Int.pow_zero, Int.pow_zero]; rfl⟩, fun _ _ _ _ _ => True.intro, ?_, ?_⟩
          · rintro i d μ' ρ' hd ⟨rfl, hi, s, v, rfl⟩
            obtain ⟨hi2, rfl⟩ := rangeD_get hd
            have m1 : CMulB (a ^ i) a := ⟨40001, 1000, pow_sz sa i hi, sa, by decide⟩
            have m2 : CMulB (b ^ i) b := ⟨40001, 1000, pow_sz sb i hi, sb, by decide⟩
            walk_at "dz"
            exact ⟨by omega, _, _, by rw [Int.pow_succ, Int.pow_succ]; rfl⟩
          · rintro μ' ρ' ⟨rfl, hi, s, v, rfl⟩
            rw [rangeD_len] at hi ⊢
            walk_at "dz"
            exact hp
end
def P_law : PD := fun μ ds post _ => ∃ ns : List Int, ds = [.frz (ns.map D.int)] ∧ ns.length ≤ 63 ∧ (∀ n ∈ ns, n.natAbs < 2 ^ 1048576) ∧ ∀ μ', post μ' (.bl true)
theorem al_num (n : Nat) (a b : Int) : alD (n + 1) (numD a b) = true := by cases n <;> rfl
theorem al_due2 (k : Nat) (a b c d : Int) : alD 4 (due2 k a b c d) = true := by
  unfold due2
  repeat' split
  all_goals rfl
theorem al_dueP (a b t : Int) : alD 4 (dueP a b t) = true := by
  unfold dueP
  repeat' split
  all_goals rfl
section
variable {P : Program} {w : World} {K : PySem.W.Frag} {mg : Str → Option Value} {base : Heap}
theorem c_law (h : Std K mg "law" s_law) (n_range : mg "range" = none) (n_list : mg "list" = none) (C__law_deck : Cal P w K mg base CX0 1 "_law_deck" s__law_deck ["_law_script"] (spD K 1 P_deck)) (C__law_draw : Cal P w K mg base CX0 1 "_law_draw" s__law_draw ["_law_deck_here", "_law_limit"] (spD K 2 P_draw)) (C__law_two : Cal P w K mg base CX0 4 "_law_two" s__law_two ["_law_deck_here"] (spD K 1 P_pairs))
    (C__law_wrong : Cal P w K mg base CX0 2 "_law_wrong" s__law_wrong ["_law_deck_here", "_law_one"] (spD K 2 P_wrong)) (C__law_told : Cal P w K mg base CX0 5 "_law_told" s__law_told ["_law_name", "_law_one", "_law_other"] (spD K 3 P_told)) (C__law_due : Cal P w K mg base CX0 3 "_law_due" s__law_due ["_law_name", "_law_one", "_law_other"] (spD K 3 P_told)) (C__law_alike : Cal P w K mg base CX0 5 "_law_alike" s__law_alike ["_law_found", "_law_due_here"] (spD K 2 (P_alike 5))) :
    Cal P w K mg base CX0 6 "law" s_law ["_law_script"] (spD K 1 P_law) := by
  refine cal0 h sc_law (fun _ _ _ _ _ _ us hl => match us, hl with | [_], _ => rfl) fun f cdv A outer s H E hr => ⟨_,
    have hu64 := hr.units; (pss_cons (ps_set (i := 1) sc_law.nd rfl (Or.inl rfl) (pe_c C__law_deck hr (by first | decide | omega) (pa_cons (pv 0) pa_nil)))
 (pss_cons (ps_for PassesOwn.never rfl (pi_range1 rfl n_range (pa_cons pe_int pa_nil)) (pg_name (i := 2) sc_law.nd rfl (Or.inl rfl))
 (pss_cons (ps_set (i := 3) sc_law.nd rfl (Or.inl rfl) (pe_c C__law_two hr (by first | decide | omega) (pa_cons (pv 1) pa_nil)))
 (pss_cons (ps_set (i := 4) sc_law.nd rfl (Or.inl rfl) (pe_callTy call_list_of (by rfl) n_list (by decide +kernel) (pa_cons (pv 3) pa_nil)))
 (pss_cons (ps_for PassesOwn.never rfl (pi_range1 rfl n_range (pa_cons pe_int pa_nil)) (pg_name (i := 5) sc_law.nd rfl (Or.inl rfl))
 (pss_one (ps_if (pt_cmpR (op_eqU hu64) (pe_c C__law_draw hr (by first | decide | omega) (pa_cons (pv 1) (pa_cons pe_int pa_nil))) pe_int (nomark _))
 (pss_one (ps_asg (pe_c C__law_wrong hr (by first | decide | omega) (pa_cons (pv 1) (pa_cons (pe_ix ix_seq (pv 3) (pv 5) (fun _ _ => rfl)) pa_nil))) (pg_sub (pv 4) (pv 5) set_list)))
 pss_nil)))
 (pss_cons (ps_set (i := 6) sc_law.nd rfl (Or.inl rfl) (pe_ix ix_seq (pe_lst (pa_cons (pe_c C__law_draw hr (by first | decide | omega) (pa_cons (pv 1) (pa_cons pe_int pa_nil))) (pa_cons (pe_c C__law_draw hr (by first | decide | omega) (pa_cons (pv 1) (pa_cons pe_int pa_nil))) (pa_cons (pe_op op_sub (pe_un un_neg pe_int) (pe_c C__law_draw hr (by first | decide | omega) (pa_cons (pv 1) (pa_cons (pe_op op_powB pe_int pe_int) pa_nil)))) pa_nil)))) (pe_c C__law_draw hr (by first | decide | omega) (pa_cons (pv 1) (pa_cons pe_int pa_nil))) (fun _ _ => rfl)))
 (pss_one (ps_for PassesOwn.never rfl (pi_list (pe_lst (pa_cons (pe_tup (pa_cons (pe_ix ix_seq (pv 4) pe_int (fun _ _ => rfl)) (pa_cons (pe_ix ix_seq (pv 4) pe_int (fun _ _ => rfl)) pa_nil))) (pa_cons (pv 3) pa_nil)))) (pg_tup rfl (pgs_cons (pg_name (i := 7) sc_law.nd rfl (Or.inl rfl)) (pgs_cons (pg_name (i := 8) sc_law.nd rfl (Or.inl rfl)) pgs_nil)))
 (pss_cons (ps_for PassesOwn.never rfl (pi_list (pe_lst (pa_cons pe_str (pa_cons pe_str (pa_cons pe_str (pa_cons pe_str (pa_cons pe_str pa_nil))))))) (pg_name (i := 9) sc_law.nd rfl (Or.inl rfl))
 (pss_one (ps_if (pt_not (pt_val (pe_c C__law_alike hr (by first | decide | omega) (pa_cons (pe_c C__law_told hr (by first | decide | omega) (pa_cons (pv 9) (pa_cons (pv 7) (pa_cons (pv 8) pa_nil)))) (pa_cons (pe_c C__law_due hr (by first | decide | omega) (pa_cons (pv 9) (pa_cons (pv 7) (pa_cons (pv 8) pa_nil)))) pa_nil)))))
 (pss_one (ps_ret pe_bl))
 pss_nil)))
 (pss_one (ps_for PassesOwn.never rfl (pi_list (pe_lst (pa_cons pe_str (pa_cons pe_str pa_nil)))) (pg_name (i := 9) sc_law.nd rfl (Or.inl rfl))
 (pss_one (ps_for PassesOwn.never rfl (pi_list (pe_lst (pa_cons (pv 6) (pa_cons pe_int (pa_cons pe_int pa_nil))))) (pg_name (i := 10) sc_law.nd rfl (Or.inl rfl))
 (pss_one (ps_if (pt_not (pt_val (pe_c C__law_alike hr (by first | decide | omega) (pa_cons (pe_c C__law_told hr (by first | decide | omega) (pa_cons (pv 9) (pa_cons (pv 7) (pa_cons (pv 10) pa_nil)))) (pa_cons (pe_c C__law_due hr (by first | decide | omega) (pa_cons (pv 9) (pa_cons (pv 7) (pa_cons (pv 10) pa_nil)))) pa_nil)))))
 (pss_one (ps_ret pe_bl))
 pss_nil))))))))))))))
 (pss_one (ps_ret pe_bl)))), fun μ ds post exc hl hP => ?_⟩
  obtain ⟨ns, rfl, hn, hb, hp⟩ := hP
  have q9 := cp10 (n := 9) (by decide) (by decide)
  walk_at "d0"
  walk_at "dz"
  refine ⟨ns, rfl, hn, hb, fun μ1 a g D1 B1 ha hg => ?_⟩
  walk_at "dz"
  refine gs_for (itx_range1 ?_)
  walk_at "dx"
  refine ⟨⟨by decide, by decide⟩, ?_⟩
  refine ⟨fun i μ' ρ' => ∃ (u2 u3 u4 u5 u6 u7 u8 u9 u10 : Option D), ρ' = [some (.frz (ns.map D.int)), some (.at a), u2, u3, u4, u5, u6, u7, u8, u9, u10] ∧ Deck a g (100 * i) μ',
    ⟨none, none, none, none, none, none, none, none, none, rfl, D1.mono (by omega)⟩, fun _ _ _ _ _ => True.intro, ?_, ?_⟩
  · rintro i d μ2 ρ2 hd ⟨u2, u3, u4, u5, u6, u7, u8, u9, u10, rfl, D2⟩
    obtain ⟨hi, rfl⟩ := rangeD_get hd
    have hi' : i < 8 := hi
    walk_at "dz"
    refine ⟨a, g, _, rfl, D2, by omega, fun μ3 x y z u hx hy hz hu D3 B3 => ?_⟩
    walk_at "dz"
    refine cax_listM (fun p hp0 => ?_)
    have pa : p ≠ a := fun z => by obtain ⟨_, _, _, _, d⟩ := D3; rw [z, d.ha] at hp0; cases hp0
    have pg : p ≠ g := fun z => by obtain ⟨_, _, _, _, d⟩ := D3; rw [z, d.hg] at hp0; cases hp0
    walk_at "dz"
    refine gs_for (itx_range1 ?_)
    walk_at "dx"
    refine ⟨⟨by decide, by decide⟩, ?_⟩
    refine ⟨fun j μ' ρ' => ∃ (a1 b1 c1 d1 : Int) (v5 : Option D), Sz a1 ∧ Sz b1 ∧ Sz c1 ∧ Sz d1 ∧ μ' p = some (.lst [numD a1 b1, numD c1 d1]) ∧ Deck a g (100 * i + 20 + 5 * j) μ' ∧
      ρ' = [some (.frz (ns.map D.int)), some (.at a), some (.int (0 + i)), some (.tup [numD x y, numD z u]), some (.at p), v5, u6, u7, u8, u9, u10],
      ⟨x, y, z, u, u5, hx.sz, hy.sz, hz.sz, hu.sz, mput_same, (D3.but pa pg).mono (by omega), rfl⟩, fun _ _ _ _ _ => True.intro, ?_, ?_⟩
    · rintro j dj μ4 ρ4 hdj ⟨a1, b1, c1, d1, v5, s1, s2, s3, s4, h4, D4, rfl⟩
      obtain ⟨hj, rfl⟩ := rangeD_get hdj
      have hj' : j < 2 := hj
      walk_at "dz"
      refine ⟨a, g, _, 4, rfl, D4, by omega, by decide, by decide, fun μ5 q _ _ D5 B5 => ?_⟩
      have h5 : μ5 p = some (.lst [numD a1 b1, numD c1 d1]) := (B5 p pa pg).trans h4
      walk_at "dz"
      refine ifD (fun e => ?_) (fun e => ?_)
      · rcases (show j = 0 ∨ j = 1 by omega) with rfl | rfl
        · walk_at "dz"
          refine ⟨a, g, _, x, y, rfl, hx, hy, D5, by omega, fun μ6 x' y' sx sy D6 B6 => ?_⟩
          have h6 : μ6 p = some (.lst [numD a1 b1, numD c1 d1]) := (B6 p pa pg).trans h5
          refine tgx_subA (a := p) (k := 0) (j := 0) h6 rfl ?_ (fun Ψ q => by walk_at "dx"; exact q) (fun Ψ q => by walk_at "dx"; exact q)
          exact ⟨x', y', c1, d1, _, sx, sy, s3, s4, mput_same, (D6.but pa pg).mono (by omega), rfl⟩
        · walk_at "dz"
          refine ⟨a, g, _, z, u, rfl, hz, hu, D5, by omega, fun μ6 x' y' sx sy D6 B6 => ?_⟩
          have h6 : μ6 p = some (.lst [numD a1 b1, numD c1 d1]) := (B6 p pa pg).trans h5
          refine tgx_subA (a := p) (k := 1) (j := 1) h6 rfl ?_ (fun Ψ q => by walk_at "dx"; exact q) (fun Ψ q => by walk_at "dx"; exact q)
          exact ⟨a1, b1, x', y', _, s1, s2, sx, sy, mput_same, (D6.but pa pg).mono (by omega), rfl⟩
      · walk_at "dz"
        exact ⟨a1, b1, c1, d1, _, s1, s2, s3, s4, h5, D5.mono (by omega), rfl⟩
    · rintro μ4 ρ4 ⟨a1, b1, c1, d1, v5, s1, s2, s3, s4, h4, D4, rfl⟩
      rw [rangeD_len] at D4
      have D4' : Deck a g (100 * i + 40) μ4 := D4.mono (by have : ((2 : Int).toNat : Int) = 2 := rfl; omega)
      clear D4
      walk_at "dz"
      refine evx_lst ?_
      walk_at "dz"
      refine ⟨a, g, _, 41, rfl, D4', by omega, by decide, by decide, fun μ5 t1 t10 t11 D5 B5 => ?_⟩
      walk_at "dz"
      refine ⟨a, g, _, 4, rfl, D5, by omega, by decide, by decide, fun μ6 t2 t20 t21 D6 B6 => ?_⟩
      walk_at "dz"
      rw [p10_9]
      refine ⟨a, g, _, 1000000000, rfl, D6, by omega, by decide, small_lt (by decide) (by omega), fun μ7 t3 t30 t31 D7 B7 => ?_⟩
      walk_at "dz"
      refine ⟨a, g, _, 3, rfl, D7, by omega, by decide, by decide, fun μ8 k hk0 hk1 D8 B8 => ?_⟩
      have h8 : μ8 p = some (.lst [numD a1 b1, numD c1 d1]) := (B8 p pa pg).trans ((B7 p pa pg).trans ((B6 p pa pg).trans ((B5 p pa pg).trans h4)))
      refine opx_ix (x := .lst _) rfl (pick3 hk0 hk1 _ _ _) ?_
      obtain ⟨t, ht, hle⟩ : ∃ t : Int, (if k = 0 then D.int t1 else if k = 1 then .int t2 else .int (-1 - t3)) = .int t ∧ t ≤ 40 := by
        split
        · exact ⟨_, rfl, by omega⟩
        · split <;> exact ⟨_, rfl, by omega⟩
      rw [ht]
      have D9 : Deck a g (100 * (i + 1 : Nat)) μ8 := D8.mono (by omega)
      clear D8 D7 D6 D5 B8 B7 B6 B5 D4' ht h4 D3 D2
      walk_at "dz"
      refine gs_for (itx_list ?_)
      refine evx_lst ?_
      walk_at "dz"
      refine ⟨_, _, isL_lst, ?_⟩
      refine ⟨fun j μ' ρ' => μ' = μ8 ∧ ∃ (w5 w7 w8 w9 w10 : Option D), ρ' = [some (.frz (ns.map D.int)), some (.at a), some (.int (0 + i)), some (.tup [numD x y, numD z u]), some (.at p), w5, some (.int t), w7, w8, w9, w10],
        ⟨rfl, _, _, _, _, _, rfl⟩, fun _ _ _ _ _ => True.intro, ?_, ?_⟩
      · rintro j dj μ9 ρ9 hdj ⟨rfl, w5, w7, w8, w9, w10, rfl⟩
        obtain ⟨A1, A2, A3, A4, rfl, z1, z2, z3, z4⟩ : ∃ A1 A2 A3 A4 : Int, dj = .tup [numD A1 A2, numD A3 A4] ∧ Sz A1 ∧ Sz A2 ∧ Sz A3 ∧ Sz A4 := by
          rcases List.mem_cons.mp (List.mem_of_getElem? hdj) with e | e
          · exact ⟨_, _, _, _, e, s1, s2, s3, s4⟩
          · rcases List.mem_cons.mp e with e | e
            · exact ⟨_, _, _, _, e, hx.sz, hy.sz, hz.sz, hu.sz⟩
            · cases e
        walk_at "dz"
        refine gs_for (itx_list ?_)
        refine evx_lst ?_
        walk_at "dz"
        refine ⟨_, _, isL_lst, ?_⟩
        refine ⟨fun j μ' ρ' => μ' = μ9 ∧ ∃ (w9 w10 : Option D), ρ' = [some (.frz (ns.map D.int)), some (.at a), some (.int (0 + i)), some (.tup [numD x y, numD z u]), some (.at p), w5, some (.int t), some (numD A1 A2), some (numD A3 A4), w9, w10],
          ⟨rfl, _, _, rfl⟩, fun _ _ _ _ _ => True.intro, ?_, ?_⟩
        · rintro j2 dn μ10 ρ10 hdn ⟨rfl, x9, x10, rfl⟩
          obtain ⟨nm, kk, hnm, rfl⟩ : ∃ nm kk, Nm2 nm kk ∧ dn = .str nm := by
            have hm := List.mem_of_getElem? hdn
            simp only [List.mem_cons, List.not_mem_nil, or_false] at hm
            rcases hm with e | e | e | e | e
            · exact ⟨_, 0, .inl ⟨rfl, rfl⟩, e⟩
            · exact ⟨_, 1, .inr (.inl ⟨rfl, rfl⟩), e⟩
            · exact ⟨_, 2, .inr (.inr (.inl ⟨rfl, rfl⟩)), e⟩
            · exact ⟨_, 3, .inr (.inr (.inr (.inl ⟨rfl, rfl⟩))), e⟩
            · exact ⟨_, 2, .inr (.inr (.inr (.inr ⟨rfl, rfl⟩))), e⟩
          walk_at "dz"
          refine Or.inl ⟨nm, kk, A1, A2, A3, A4, hnm, rfl, z1, z2, z3, z4, ?_⟩
          walk_at "dz"
          refine Or.inl ⟨nm, kk, A1, A2, A3, A4, hnm, rfl, z1, z2, z3, z4, ?_⟩
          walk_at "dz"
          refine ⟨_, rfl, al_due2 _ _ _ _ _, ?_⟩
          walk_at "dz"
          exact ⟨_, _, rfl⟩
        · rintro μ10 ρ10 ⟨rfl, x9, x10, rfl⟩
          walk_at "dz"
          refine gs_for (itx_list ?_)
          refine evx_lst ?_
          walk_at "dz"
          refine ⟨_, _, isL_lst, ?_⟩
          refine ⟨fun j μ' ρ' => μ' = μ10 ∧ ∃ (w9 w10 : Option D), ρ' = [some (.frz (ns.map D.int)), some (.at a), some (.int (0 + i)), some (.tup [numD x y, numD z u]), some (.at p), w5, some (.int t), some (numD A1 A2), some (numD A3 A4), w9, w10],
            ⟨rfl, _, _, rfl⟩, fun _ _ _ _ _ => True.intro, ?_, ?_⟩
          · rintro j3 dn μ11 ρ11 hdn ⟨rfl, y9, y10, rfl⟩
            obtain ⟨nm, hnm, rfl⟩ : ∃ nm, NmP nm ∧ dn = .str nm := by
              have hm := List.mem_of_getElem? hdn
              simp only [List.mem_cons, List.not_mem_nil, or_false] at hm
              rcases hm with e | e
              · exact ⟨_, .inl rfl, e⟩
              · exact ⟨_, .inr rfl, e⟩
            walk_at "dz"
            refine gs_for (itx_list ?_)
            refine evx_lst ?_
            walk_at "dz"
            refine ⟨_, _, isL_lst, ?_⟩
            refine ⟨fun j μ' ρ' => μ' = μ11 ∧ ∃ (w10 : Option D), ρ' = [some (.frz (ns.map D.int)), some (.at a), some (.int (0 + i)), some (.tup [numD x y, numD z u]), some (.at p), w5, some (.int t), some (numD A1 A2), some (numD A3 A4), some (.str nm), w10],
              ⟨rfl, _, rfl⟩, fun _ _ _ _ _ => True.intro, ?_, ?_⟩
            · rintro j4 dm μ12 ρ12 hdm ⟨rfl, v10, rfl⟩
              obtain ⟨tt, htt, rfl⟩ : ∃ tt : Int, tt ≤ 40 ∧ dm = .int tt := by
                have hm := List.mem_of_getElem? hdm
                simp only [List.mem_cons, List.not_mem_nil, or_false] at hm
                rcases hm with e | e | e
                · exact ⟨_, hle, e⟩
                · exact ⟨0, by decide, e⟩
                · exact ⟨1, by decide, e⟩
              walk_at "dz"
              refine Or.inr ⟨nm, A1, A2, tt, hnm, rfl, z1, z2, htt, ?_⟩
              walk_at "dz"
              refine Or.inr ⟨nm, A1, A2, tt, hnm, rfl, z1, z2, htt, ?_⟩
              walk_at "dz"
              refine ⟨_, rfl, al_dueP _ _ _, ?_⟩
              walk_at "dz"
              exact ⟨_, rfl⟩
            · rintro μ12 ρ12 ⟨rfl, v10, rfl⟩
              walk_at "dz"
              exact ⟨_, _, rfl⟩
          · rintro μ11 ρ11 ⟨rfl, y9, y10, rfl⟩
            walk_at "dz"
            exact ⟨_, _, _, _, _, rfl⟩
      · rintro μ9 ρ9 ⟨rfl, w5, w7, w8, w9, w10, rfl⟩
        walk_at "dz"
        exact ⟨_, _, _, _, _, _, _, _, _, rfl, D9⟩
  · rintro μ2 ρ2 ⟨u2, u3, u4, u5, u6, u7, u8, u9, u10, rfl, D2⟩
    walk_at "dz"
    exact hp _
end
theorem law_end : ∀ ns : List Int, ns.length ≤ 63 → (∀ n ∈ ns, n.natAbs < 2 ^ 1048576) → P_law (fun _ => none) [.frz (ns.map D.int)] (fun _ d => d = .bl true) excN := fun ns hl hb => ⟨ns, rfl, hl, hb, fun _ => rfl⟩
theorem all_mk {P : Program} {w : World} {K : PySem.W.Frag} {h : Heap} {mg : Str → Option Value} {fa : Addr} (X : K.In h) (G : h.Ns mainGlobals mg) (hfa : mg "law" = some (.ref fa))
  {f_lowest : Addr} {od_lowest an_lowest : Option Addr} {sl_lowest : Array (Option Value)} {oc_lowest kV_lowest dc_lowest pm_lowest cd_lowest ct_lowest : Value}
  {f_is_number : Addr} {od_is_number an_is_number : Option Addr} {sl_is_number : Array (Option Value)} {oc_is_number kV_is_number dc_is_number pm_is_number cd_is_number ct_is_number : Value}
  {f_checked : Addr} {od_checked an_checked : Option Addr} {sl_checked : Array (Option Value)} {oc_checked kV_checked dc_checked pm_checked cd_checked ct_checked : Value}
  {f_sum_of : Addr} {od_sum_of an_sum_of : Option Addr} {sl_sum_of : Array (Option Value)} {oc_sum_of kV_sum_of dc_sum_of pm_sum_of cd_sum_of ct_sum_of : Value}
  {f_product_of : Addr} {od_product_of an_product_of : Option Addr} {sl_product_of : Array (Option Value)} {oc_product_of kV_product_of dc_product_of pm_product_of cd_product_of ct_product_of : Value}
  {f_added : Addr} {od_added an_added : Option Addr} {sl_added : Array (Option Value)} {oc_added kV_added dc_added pm_added cd_added ct_added : Value}
  {f_product : Addr} {od_product an_product : Option Addr} {sl_product : Array (Option Value)} {oc_product kV_product dc_product pm_product cd_product ct_product : Value}
  {f_quotient : Addr} {od_quotient an_quotient : Option Addr} {sl_quotient : Array (Option Value)} {oc_quotient kV_quotient dc_quotient pm_quotient cd_quotient ct_quotient : Value}
  {f_power : Addr} {od_power an_power : Option Addr} {sl_power : Array (Option Value)} {oc_power kV_power dc_power pm_power cd_power ct_power : Value}
  {f__law_deck : Addr} {od__law_deck an__law_deck : Option Addr} {sl__law_deck : Array (Option Value)} {oc__law_deck kV__law_deck dc__law_deck pm__law_deck cd__law_deck ct__law_deck : Value}
  {f__law_draw : Addr} {od__law_draw an__law_draw : Option Addr} {sl__law_draw : Array (Option Value)} {oc__law_draw kV__law_draw dc__law_draw pm__law_draw cd__law_draw ct__law_draw : Value}
  {f__law_gcd : Addr} {od__law_gcd an__law_gcd : Option Addr} {sl__law_gcd : Array (Option Value)} {oc__law_gcd kV__law_gcd dc__law_gcd pm__law_gcd cd__law_gcd ct__law_gcd : Value}
  {f__law_pair : Addr} {od__law_pair an__law_pair : Option Addr} {sl__law_pair : Array (Option Value)} {oc__law_pair kV__law_pair dc__law_pair pm__law_pair cd__law_pair ct__law_pair : Value}
  {f__law_alike : Addr} {od__law_alike an__law_alike : Option Addr} {sl__law_alike : Array (Option Value)} {oc__law_alike kV__law_alike dc__law_alike pm__law_alike cd__law_alike ct__law_alike : Value}
  {f__law_number : Addr} {od__law_number an__law_number : Option Addr} {sl__law_number : Array (Option Value)} {oc__law_number kV__law_number dc__law_number pm__law_number cd__law_number ct__law_number : Value}
  {f__law_two : Addr} {od__law_two an__law_two : Option Addr} {sl__law_two : Array (Option Value)} {oc__law_two kV__law_two dc__law_two pm__law_two cd__law_two ct__law_two : Value}
  {f__law_wrong : Addr} {od__law_wrong an__law_wrong : Option Addr} {sl__law_wrong : Array (Option Value)} {oc__law_wrong kV__law_wrong dc__law_wrong pm__law_wrong cd__law_wrong ct__law_wrong : Value}
  {f__law_is_number : Addr} {od__law_is_number an__law_is_number : Option Addr} {sl__law_is_number : Array (Option Value)} {oc__law_is_number kV__law_is_number dc__law_is_number pm__law_is_number cd__law_is_number ct__law_is_number : Value}
  {f__law_told : Addr} {od__law_told an__law_told : Option Addr} {sl__law_told : Array (Option Value)} {oc__law_told kV__law_told dc__law_told pm__law_told cd__law_told ct__law_told : Value}
  {f__law_due : Addr} {od__law_due an__law_due : Option Addr} {sl__law_due : Array (Option Value)} {oc__law_due kV__law_due dc__law_due pm__law_due cd__law_due ct__law_due : Value}
  {f_law : Addr} {od_law an_law : Option Addr} {sl_law : Array (Option Value)} {oc_law kV_law dc_law pm_law cd_law ct_law : Value}
  {fI : Addr} {odI anI : Option Addr} {slI : Array (Option Value)} {ocI kVI dcI pmI cdI ctI : Value}
  {A_WorthError : Addr} {nm_WorthError qn_WorthError : Str} {N_WorthError : Addr} {bs_WorthError bm_WorthError : List Value} {sn_WorthError : List Str} {sub_WorthError : List Value} {ab_WorthError : Bool} {col_WorthError : Option Bool} {dd_WorthError : Option Addr} {m0_WorthError m1_WorthError m2_WorthError m3_WorthError m5_WorthError : Option Value}
  {A_InvalidNumber : Addr} {nm_InvalidNumber qn_InvalidNumber : Str} {N_InvalidNumber : Addr} {bs_InvalidNumber bm_InvalidNumber : List Value} {sn_InvalidNumber : List Str} {sub_InvalidNumber : List Value} {ab_InvalidNumber : Bool} {col_InvalidNumber : Option Bool} {dd_InvalidNumber : Option Addr} {m0_InvalidNumber m1_InvalidNumber m2_InvalidNumber m3_InvalidNumber m5_InvalidNumber : Option Value}
  {A_InvalidSigns : Addr} {nm_InvalidSigns qn_InvalidSigns : Str} {N_InvalidSigns : Addr} {bs_InvalidSigns bm_InvalidSigns : List Value} {sn_InvalidSigns : List Str} {sub_InvalidSigns : List Value} {ab_InvalidSigns : Bool} {col_InvalidSigns : Option Bool} {dd_InvalidSigns : Option Addr} {m0_InvalidSigns m1_InvalidSigns m2_InvalidSigns m3_InvalidSigns m5_InvalidSigns : Option Value}
  {A_UnknownSign : Addr} {nm_UnknownSign qn_UnknownSign : Str} {N_UnknownSign : Addr} {bs_UnknownSign bm_UnknownSign : List Value} {sn_UnknownSign : List Str} {sub_UnknownSign : List Value} {ab_UnknownSign : Bool} {col_UnknownSign : Option Bool} {dd_UnknownSign : Option Addr} {m0_UnknownSign m1_UnknownSign m2_UnknownSign m3_UnknownSign m5_UnknownSign : Option Value}
  {A_InvalidMachine : Addr} {nm_InvalidMachine qn_InvalidMachine : Str} {N_InvalidMachine : Addr} {bs_InvalidMachine bm_InvalidMachine : List Value} {sn_InvalidMachine : List Str} {sub_InvalidMachine : List Value} {ab_InvalidMachine : Bool} {col_InvalidMachine : Option Bool} {dd_InvalidMachine : Option Addr} {m0_InvalidMachine m1_InvalidMachine m2_InvalidMachine m3_InvalidMachine m5_InvalidMachine : Option Value}
  {A_UnlikeSigns : Addr} {nm_UnlikeSigns qn_UnlikeSigns : Str} {N_UnlikeSigns : Addr} {bs_UnlikeSigns bm_UnlikeSigns : List Value} {sn_UnlikeSigns : List Str} {sub_UnlikeSigns : List Value} {ab_UnlikeSigns : Bool} {col_UnlikeSigns : Option Bool} {dd_UnlikeSigns : Option Addr} {m0_UnlikeSigns m1_UnlikeSigns m2_UnlikeSigns m3_UnlikeSigns m5_UnlikeSigns : Option Value}
  (a_lowest : PySem.W.nsIn K mainGlobals "lowest" = some (some (.ref f_lowest)))
  (l_lowest : K.lookup f_lowest = some ⟨oc_lowest, od_lowest, .func (PySem.W.fnOf "lowest" "lowest" (defArgs s_lowest) (defBody s_lowest) (defScope s_lowest) .none kV_lowest dc_lowest pm_lowest an_lowest cd_lowest ct_lowest), sl_lowest⟩)
  (q_lowest : PySem.W.codeIn K cd_lowest "lowest" = true)
  (k_lowest : PySem.W.keepIn K (.ref f_lowest) = true)
  (a_is_number : PySem.W.nsIn K mainGlobals "is_number" = some (some (.ref f_is_number)))
  (l_is_number : K.lookup f_is_number = some ⟨oc_is_number, od_is_number, .func (PySem.W.fnOf "is_number" "is_number" (defArgs s_is_number) (defBody s_is_number) (defScope s_is_number) .none kV_is_number dc_is_number pm_is_number an_is_number cd_is_number ct_is_number), sl_is_number⟩)
  (q_is_number : PySem.W.codeIn K cd_is_number "is_number" = true)
  (k_is_number : PySem.W.keepIn K (.ref f_is_number) = true)
  (a_checked : PySem.W.nsIn K mainGlobals "checked" = some (some (.ref f_checked)))
  (l_checked : K.lookup f_checked = some ⟨oc_checked, od_checked, .func (PySem.W.fnOf "checked" "checked" (defArgs s_checked) (defBody s_checked) (defScope s_checked) .none kV_checked dc_checked pm_checked an_checked cd_checked ct_checked), sl_checked⟩)
  (q_checked : PySem.W.codeIn K cd_checked "checked" = true)
  (k_checked : PySem.W.keepIn K (.ref f_checked) = true)
  (a_sum_of : PySem.W.nsIn K mainGlobals "sum_of" = some (some (.ref f_sum_of)))
  (l_sum_of : K.lookup f_sum_of = some ⟨oc_sum_of, od_sum_of, .func (PySem.W.fnOf "sum_of" "sum_of" (defArgs s_sum_of) (defBody s_sum_of) (defScope s_sum_of) .none kV_sum_of dc_sum_of pm_sum_of an_sum_of cd_sum_of ct_sum_of), sl_sum_of⟩)
  (q_sum_of : PySem.W.codeIn K cd_sum_of "sum_of" = true)
  (k_sum_of : PySem.W.keepIn K (.ref f_sum_of) = true)
  (a_product_of : PySem.W.nsIn K mainGlobals "product_of" = some (some (.ref f_product_of)))
  (l_product_of : K.lookup f_product_of = some ⟨oc_product_of, od_product_of, .func (PySem.W.fnOf "product_of" "product_of" (defArgs s_product_of) (defBody s_product_of) (defScope s_product_of) .none kV_product_of dc_product_of pm_product_of an_product_of cd_product_of ct_product_of), sl_product_of⟩)
  (q_product_of : PySem.W.codeIn K cd_product_of "product_of" = true)
  (k_product_of : PySem.W.keepIn K (.ref f_product_of) = true)
  (a_added : PySem.W.nsIn K mainGlobals "added" = some (some (.ref f_added)))
  (l_added : K.lookup f_added = some ⟨oc_added, od_added, .func (PySem.W.fnOf "added" "added" (defArgs s_added) (defBody s_added) (defScope s_added) .none kV_added dc_added pm_added an_added cd_added ct_added), sl_added⟩)
  (q_added : PySem.W.codeIn K cd_added "added" = true)
  (k_added : PySem.W.keepIn K (.ref f_added) = true)
  (a_product : PySem.W.nsIn K mainGlobals "product" = some (some (.ref f_product)))
  (l_product : K.lookup f_product = some ⟨oc_product, od_product, .func (PySem.W.fnOf "product" "product" (defArgs s_product) (defBody s_product) (defScope s_product) .none kV_product dc_product pm_product an_product cd_product ct_product), sl_product⟩)
  (q_product : PySem.W.codeIn K cd_product "product" = true)
  (k_product : PySem.W.keepIn K (.ref f_product) = true)
  (a_quotient : PySem.W.nsIn K mainGlobals "quotient" = some (some (.ref f_quotient)))
  (l_quotient : K.lookup f_quotient = some ⟨oc_quotient, od_quotient, .func (PySem.W.fnOf "quotient" "quotient" (defArgs s_quotient) (defBody s_quotient) (defScope s_quotient) .none kV_quotient dc_quotient pm_quotient an_quotient cd_quotient ct_quotient), sl_quotient⟩)
  (q_quotient : PySem.W.codeIn K cd_quotient "quotient" = true)
  (k_quotient : PySem.W.keepIn K (.ref f_quotient) = true)
  (a_power : PySem.W.nsIn K mainGlobals "power" = some (some (.ref f_power)))
  (l_power : K.lookup f_power = some ⟨oc_power, od_power, .func (PySem.W.fnOf "power" "power" (defArgs s_power) (defBody s_power) (defScope s_power) .none kV_power dc_power pm_power an_power cd_power ct_power), sl_power⟩)
  (q_power : PySem.W.codeIn K cd_power "power" = true)
  (k_power : PySem.W.keepIn K (.ref f_power) = true)
  (a__law_deck : PySem.W.nsIn K mainGlobals "_law_deck" = some (some (.ref f__law_deck)))
  (l__law_deck : K.lookup f__law_deck = some ⟨oc__law_deck, od__law_deck, .func (PySem.W.fnOf "_law_deck" "_law_deck" (defArgs s__law_deck) (defBody s__law_deck) (defScope s__law_deck) .none kV__law_deck dc__law_deck pm__law_deck an__law_deck cd__law_deck ct__law_deck), sl__law_deck⟩)
  (q__law_deck : PySem.W.codeIn K cd__law_deck "_law_deck" = true)
  (k__law_deck : PySem.W.keepIn K (.ref f__law_deck) = true)
  (a__law_draw : PySem.W.nsIn K mainGlobals "_law_draw" = some (some (.ref f__law_draw)))
  (l__law_draw : K.lookup f__law_draw = some ⟨oc__law_draw, od__law_draw, .func (PySem.W.fnOf "_law_draw" "_law_draw" (defArgs s__law_draw) (defBody s__law_draw) (defScope s__law_draw) .none kV__law_draw dc__law_draw pm__law_draw an__law_draw cd__law_draw ct__law_draw), sl__law_draw⟩)
  (q__law_draw : PySem.W.codeIn K cd__law_draw "_law_draw" = true)
  (k__law_draw : PySem.W.keepIn K (.ref f__law_draw) = true)
  (a__law_gcd : PySem.W.nsIn K mainGlobals "_law_gcd" = some (some (.ref f__law_gcd)))
  (l__law_gcd : K.lookup f__law_gcd = some ⟨oc__law_gcd, od__law_gcd, .func (PySem.W.fnOf "_law_gcd" "_law_gcd" (defArgs s__law_gcd) (defBody s__law_gcd) (defScope s__law_gcd) .none kV__law_gcd dc__law_gcd pm__law_gcd an__law_gcd cd__law_gcd ct__law_gcd), sl__law_gcd⟩)
  (q__law_gcd : PySem.W.codeIn K cd__law_gcd "_law_gcd" = true)
  (k__law_gcd : PySem.W.keepIn K (.ref f__law_gcd) = true)
  (a__law_pair : PySem.W.nsIn K mainGlobals "_law_pair" = some (some (.ref f__law_pair)))
  (l__law_pair : K.lookup f__law_pair = some ⟨oc__law_pair, od__law_pair, .func (PySem.W.fnOf "_law_pair" "_law_pair" (defArgs s__law_pair) (defBody s__law_pair) (defScope s__law_pair) .none kV__law_pair dc__law_pair pm__law_pair an__law_pair cd__law_pair ct__law_pair), sl__law_pair⟩)
  (q__law_pair : PySem.W.codeIn K cd__law_pair "_law_pair" = true)
  (k__law_pair : PySem.W.keepIn K (.ref f__law_pair) = true)
  (a__law_alike : PySem.W.nsIn K mainGlobals "_law_alike" = some (some (.ref f__law_alike)))
  (l__law_alike : K.lookup f__law_alike = some ⟨oc__law_alike, od__law_alike, .func (PySem.W.fnOf "_law_alike" "_law_alike" (defArgs s__law_alike) (defBody s__law_alike) (defScope s__law_alike) .none kV__law_alike dc__law_alike pm__law_alike an__law_alike cd__law_alike ct__law_alike), sl__law_alike⟩)
  (q__law_alike : PySem.W.codeIn K cd__law_alike "_law_alike" = true)
  (k__law_alike : PySem.W.keepIn K (.ref f__law_alike) = true)
  (a__law_number : PySem.W.nsIn K mainGlobals "_law_number" = some (some (.ref f__law_number)))
  (l__law_number : K.lookup f__law_number = some ⟨oc__law_number, od__law_number, .func (PySem.W.fnOf "_law_number" "_law_number" (defArgs s__law_number) (defBody s__law_number) (defScope s__law_number) .none kV__law_number dc__law_number pm__law_number an__law_number cd__law_number ct__law_number), sl__law_number⟩)
  (q__law_number : PySem.W.codeIn K cd__law_number "_law_number" = true)
  (k__law_number : PySem.W.keepIn K (.ref f__law_number) = true)
  (a__law_two : PySem.W.nsIn K mainGlobals "_law_two" = some (some (.ref f__law_two)))
  (l__law_two : K.lookup f__law_two = some ⟨oc__law_two, od__law_two, .func (PySem.W.fnOf "_law_two" "_law_two" (defArgs s__law_two) (defBody s__law_two) (defScope s__law_two) .none kV__law_two dc__law_two pm__law_two an__law_two cd__law_two ct__law_two), sl__law_two⟩)
  (q__law_two : PySem.W.codeIn K cd__law_two "_law_two" = true)
  (k__law_two : PySem.W.keepIn K (.ref f__law_two) = true)
  (a__law_wrong : PySem.W.nsIn K mainGlobals "_law_wrong" = some (some (.ref f__law_wrong)))
  (l__law_wrong : K.lookup f__law_wrong = some ⟨oc__law_wrong, od__law_wrong, .func (PySem.W.fnOf "_law_wrong" "_law_wrong" (defArgs s__law_wrong) (defBody s__law_wrong) (defScope s__law_wrong) .none kV__law_wrong dc__law_wrong pm__law_wrong an__law_wrong cd__law_wrong ct__law_wrong), sl__law_wrong⟩)
  (q__law_wrong : PySem.W.codeIn K cd__law_wrong "_law_wrong" = true)
  (k__law_wrong : PySem.W.keepIn K (.ref f__law_wrong) = true)
  (a__law_is_number : PySem.W.nsIn K mainGlobals "_law_is_number" = some (some (.ref f__law_is_number)))
  (l__law_is_number : K.lookup f__law_is_number = some ⟨oc__law_is_number, od__law_is_number, .func (PySem.W.fnOf "_law_is_number" "_law_is_number" (defArgs s__law_is_number) (defBody s__law_is_number) (defScope s__law_is_number) .none kV__law_is_number dc__law_is_number pm__law_is_number an__law_is_number cd__law_is_number ct__law_is_number), sl__law_is_number⟩)
  (q__law_is_number : PySem.W.codeIn K cd__law_is_number "_law_is_number" = true)
  (k__law_is_number : PySem.W.keepIn K (.ref f__law_is_number) = true)
  (a__law_told : PySem.W.nsIn K mainGlobals "_law_told" = some (some (.ref f__law_told)))
  (l__law_told : K.lookup f__law_told = some ⟨oc__law_told, od__law_told, .func (PySem.W.fnOf "_law_told" "_law_told" (defArgs s__law_told) (defBody s__law_told) (defScope s__law_told) .none kV__law_told dc__law_told pm__law_told an__law_told cd__law_told ct__law_told), sl__law_told⟩)
  (q__law_told : PySem.W.codeIn K cd__law_told "_law_told" = true)
  (k__law_told : PySem.W.keepIn K (.ref f__law_told) = true)
  (a__law_due : PySem.W.nsIn K mainGlobals "_law_due" = some (some (.ref f__law_due)))
  (l__law_due : K.lookup f__law_due = some ⟨oc__law_due, od__law_due, .func (PySem.W.fnOf "_law_due" "_law_due" (defArgs s__law_due) (defBody s__law_due) (defScope s__law_due) .none kV__law_due dc__law_due pm__law_due an__law_due cd__law_due ct__law_due), sl__law_due⟩)
  (q__law_due : PySem.W.codeIn K cd__law_due "_law_due" = true)
  (k__law_due : PySem.W.keepIn K (.ref f__law_due) = true)
  (a_law : PySem.W.nsIn K mainGlobals "law" = some (some (.ref f_law)))
  (l_law : K.lookup f_law = some ⟨oc_law, od_law, .func (PySem.W.fnOf "law" "law" (defArgs s_law) (defBody s_law) (defScope s_law) .none kV_law dc_law pm_law an_law cd_law ct_law), sl_law⟩)
  (q_law : PySem.W.codeIn K cd_law "law" = true)
  (k_law : PySem.W.keepIn K (.ref f_law) = true)
  (z_abs : PySem.W.nsIn K mainGlobals "abs" = some none)
  (z_int : PySem.W.nsIn K mainGlobals "int" = some none)
  (z_isinstance : PySem.W.nsIn K mainGlobals "isinstance" = some none)
  (z_list : PySem.W.nsIn K mainGlobals "list" = some none)
  (z_tuple : PySem.W.nsIn K mainGlobals "tuple" = some none)
  (z_len : PySem.W.nsIn K mainGlobals "len" = some none)
  (z_zip : PySem.W.nsIn K mainGlobals "zip" = some none)
  (z_str : PySem.W.nsIn K mainGlobals "str" = some none)
  (z_bool : PySem.W.nsIn K mainGlobals "bool" = some none)
  (z_range : PySem.W.nsIn K mainGlobals "range" = some none)
  (z_ValueError : PySem.W.nsIn K mainGlobals "ValueError" = some none)
  (z_gcd : PySem.W.nsIn K mainGlobals "gcd" = some (some (.builtin "math.gcd")))
  (aC_WorthError : PySem.W.nsIn K mainGlobals "WorthError" = some (some (.ref A_WorthError)))
  (xC_WorthError : K.lookup A_WorthError = some (excClassObj nm_WorthError qn_WorthError A_WorthError N_WorthError bs_WorthError bm_WorthError true sn_WorthError sub_WorthError ab_WorthError col_WorthError dd_WorthError m0_WorthError m1_WorthError m2_WorthError m3_WorthError m5_WorthError "ValueError.__new__"))
  (rC_WorthError : PySem.HandSPX.refsVE bm_WorthError = true)
  (sa_WorthError : PySem.W.findIn K (.ref A_WorthError) "__setattr__" = some (some (.builtin "object.__setattr__")))
  (eC_WorthError : PySem.W.subIn K (.ref A_WorthError) (.type "BaseException") = some true)
  (tC_WorthError : PySem.W.typeIn K (.ref A_WorthError) = some (.type "type"))
  (kC_WorthError : PySem.W.keepIn K (.ref A_WorthError) = true)
  (nv_WorthError : PySem.W.findIn K (.ref A_WorthError) "value" = some none)
  (ga_WorthError : PySem.W.findIn K (.ref A_WorthError) "__getattribute__" = some (some (.builtin "BaseException.__getattribute__")))
  (gg_WorthError : PySem.W.findIn K (.ref A_WorthError) "__getattr__" = some none)
  (hd_WorthError : PySem.W.hasDictIn K A_WorthError = true)
  (ha_WorthError : PySem.W.findIn K (.ref A_WorthError) "__class__" = some (some (.builtin "object.__class__")))
  (hm_WorthError : PySem.W.mroIn K A_WorthError (.type "object") = some true)
  (iI_WorthError : PySem.W.findIn K (.ref A_WorthError) "__init__" = some (some (.ref fI)))
  (aC_InvalidNumber : PySem.W.nsIn K mainGlobals "InvalidNumber" = some (some (.ref A_InvalidNumber)))
  (xC_InvalidNumber : K.lookup A_InvalidNumber = some (excClassObj nm_InvalidNumber qn_InvalidNumber A_InvalidNumber N_InvalidNumber bs_InvalidNumber bm_InvalidNumber true sn_InvalidNumber sub_InvalidNumber ab_InvalidNumber col_InvalidNumber dd_InvalidNumber m0_InvalidNumber m1_InvalidNumber m2_InvalidNumber m3_InvalidNumber m5_InvalidNumber "ValueError.__new__"))
  (rC_InvalidNumber : PySem.HandSPX.refsVE bm_InvalidNumber = true)
  (sa_InvalidNumber : PySem.W.findIn K (.ref A_InvalidNumber) "__setattr__" = some (some (.builtin "object.__setattr__")))
  (eC_InvalidNumber : PySem.W.subIn K (.ref A_InvalidNumber) (.type "BaseException") = some true)
  (tC_InvalidNumber : PySem.W.typeIn K (.ref A_InvalidNumber) = some (.type "type"))
  (kC_InvalidNumber : PySem.W.keepIn K (.ref A_InvalidNumber) = true)
  (nv_InvalidNumber : PySem.W.findIn K (.ref A_InvalidNumber) "value" = some none)
  (ga_InvalidNumber : PySem.W.findIn K (.ref A_InvalidNumber) "__getattribute__" = some (some (.builtin "BaseException.__getattribute__")))
  (gg_InvalidNumber : PySem.W.findIn K (.ref A_InvalidNumber) "__getattr__" = some none)
  (hd_InvalidNumber : PySem.W.hasDictIn K A_InvalidNumber = true)
  (ha_InvalidNumber : PySem.W.findIn K (.ref A_InvalidNumber) "__class__" = some (some (.builtin "object.__class__")))
  (hm_InvalidNumber : PySem.W.mroIn K A_InvalidNumber (.type "object") = some true)
  (iI_InvalidNumber : PySem.W.findIn K (.ref A_InvalidNumber) "__init__" = some (some (.ref fI)))
  (aC_InvalidSigns : PySem.W.nsIn K mainGlobals "InvalidSigns" = some (some (.ref A_InvalidSigns)))
  (xC_InvalidSigns : K.lookup A_InvalidSigns = some (excClassObj nm_InvalidSigns qn_InvalidSigns A_InvalidSigns N_InvalidSigns bs_InvalidSigns bm_InvalidSigns true sn_InvalidSigns sub_InvalidSigns ab_InvalidSigns col_InvalidSigns dd_InvalidSigns m0_InvalidSigns m1_InvalidSigns m2_InvalidSigns m3_InvalidSigns m5_InvalidSigns "ValueError.__new__"))
  (rC_InvalidSigns : PySem.HandSPX.refsVE bm_InvalidSigns = true)
  (sa_InvalidSigns : PySem.W.findIn K (.ref A_InvalidSigns) "__setattr__" = some (some (.builtin "object.__setattr__")))
  (eC_InvalidSigns : PySem.W.subIn K (.ref A_InvalidSigns) (.type "BaseException") = some true)
  (tC_InvalidSigns : PySem.W.typeIn K (.ref A_InvalidSigns) = some (.type "type"))
  (kC_InvalidSigns : PySem.W.keepIn K (.ref A_InvalidSigns) = true)
  (nv_InvalidSigns : PySem.W.findIn K (.ref A_InvalidSigns) "value" = some none)
  (ga_InvalidSigns : PySem.W.findIn K (.ref A_InvalidSigns) "__getattribute__" = some (some (.builtin "BaseException.__getattribute__")))
  (gg_InvalidSigns : PySem.W.findIn K (.ref A_InvalidSigns) "__getattr__" = some none)
  (hd_InvalidSigns : PySem.W.hasDictIn K A_InvalidSigns = true)
  (ha_InvalidSigns : PySem.W.findIn K (.ref A_InvalidSigns) "__class__" = some (some (.builtin "object.__class__")))
  (hm_InvalidSigns : PySem.W.mroIn K A_InvalidSigns (.type "object") = some true)
  (iI_InvalidSigns : PySem.W.findIn K (.ref A_InvalidSigns) "__init__" = some (some (.ref fI)))
  (aC_UnknownSign : PySem.W.nsIn K mainGlobals "UnknownSign" = some (some (.ref A_UnknownSign)))
  (xC_UnknownSign : K.lookup A_UnknownSign = some (excClassObj nm_UnknownSign qn_UnknownSign A_UnknownSign N_UnknownSign bs_UnknownSign bm_UnknownSign true sn_UnknownSign sub_UnknownSign ab_UnknownSign col_UnknownSign dd_UnknownSign m0_UnknownSign m1_UnknownSign m2_UnknownSign m3_UnknownSign m5_UnknownSign "ValueError.__new__"))
  (rC_UnknownSign : PySem.HandSPX.refsVE bm_UnknownSign = true)
  (sa_UnknownSign : PySem.W.findIn K (.ref A_UnknownSign) "__setattr__" = some (some (.builtin "object.__setattr__")))
  (eC_UnknownSign : PySem.W.subIn K (.ref A_UnknownSign) (.type "BaseException") = some true)
  (tC_UnknownSign : PySem.W.typeIn K (.ref A_UnknownSign) = some (.type "type"))
  (kC_UnknownSign : PySem.W.keepIn K (.ref A_UnknownSign) = true)
  (nv_UnknownSign : PySem.W.findIn K (.ref A_UnknownSign) "value" = some none)
  (ga_UnknownSign : PySem.W.findIn K (.ref A_UnknownSign) "__getattribute__" = some (some (.builtin "BaseException.__getattribute__")))
  (gg_UnknownSign : PySem.W.findIn K (.ref A_UnknownSign) "__getattr__" = some none)
  (hd_UnknownSign : PySem.W.hasDictIn K A_UnknownSign = true)
  (ha_UnknownSign : PySem.W.findIn K (.ref A_UnknownSign) "__class__" = some (some (.builtin "object.__class__")))
  (hm_UnknownSign : PySem.W.mroIn K A_UnknownSign (.type "object") = some true)
  (iI_UnknownSign : PySem.W.findIn K (.ref A_UnknownSign) "__init__" = some (some (.ref fI)))
  (aC_InvalidMachine : PySem.W.nsIn K mainGlobals "InvalidMachine" = some (some (.ref A_InvalidMachine)))
  (xC_InvalidMachine : K.lookup A_InvalidMachine = some (excClassObj nm_InvalidMachine qn_InvalidMachine A_InvalidMachine N_InvalidMachine bs_InvalidMachine bm_InvalidMachine true sn_InvalidMachine sub_InvalidMachine ab_InvalidMachine col_InvalidMachine dd_InvalidMachine m0_InvalidMachine m1_InvalidMachine m2_InvalidMachine m3_InvalidMachine m5_InvalidMachine "ValueError.__new__"))
  (rC_InvalidMachine : PySem.HandSPX.refsVE bm_InvalidMachine = true)
  (sa_InvalidMachine : PySem.W.findIn K (.ref A_InvalidMachine) "__setattr__" = some (some (.builtin "object.__setattr__")))
  (eC_InvalidMachine : PySem.W.subIn K (.ref A_InvalidMachine) (.type "BaseException") = some true)
  (tC_InvalidMachine : PySem.W.typeIn K (.ref A_InvalidMachine) = some (.type "type"))
  (kC_InvalidMachine : PySem.W.keepIn K (.ref A_InvalidMachine) = true)
  (nv_InvalidMachine : PySem.W.findIn K (.ref A_InvalidMachine) "value" = some none)
  (ga_InvalidMachine : PySem.W.findIn K (.ref A_InvalidMachine) "__getattribute__" = some (some (.builtin "BaseException.__getattribute__")))
  (gg_InvalidMachine : PySem.W.findIn K (.ref A_InvalidMachine) "__getattr__" = some none)
  (hd_InvalidMachine : PySem.W.hasDictIn K A_InvalidMachine = true)
  (ha_InvalidMachine : PySem.W.findIn K (.ref A_InvalidMachine) "__class__" = some (some (.builtin "object.__class__")))
  (hm_InvalidMachine : PySem.W.mroIn K A_InvalidMachine (.type "object") = some true)
  (iI_InvalidMachine : PySem.W.findIn K (.ref A_InvalidMachine) "__init__" = some (some (.ref fI)))
  (aC_UnlikeSigns : PySem.W.nsIn K mainGlobals "UnlikeSigns" = some (some (.ref A_UnlikeSigns)))
  (xC_UnlikeSigns : K.lookup A_UnlikeSigns = some (excClassObj nm_UnlikeSigns qn_UnlikeSigns A_UnlikeSigns N_UnlikeSigns bs_UnlikeSigns bm_UnlikeSigns true sn_UnlikeSigns sub_UnlikeSigns ab_UnlikeSigns col_UnlikeSigns dd_UnlikeSigns m0_UnlikeSigns m1_UnlikeSigns m2_UnlikeSigns m3_UnlikeSigns m5_UnlikeSigns "ValueError.__new__"))
  (rC_UnlikeSigns : PySem.HandSPX.refsVE bm_UnlikeSigns = true)
  (sa_UnlikeSigns : PySem.W.findIn K (.ref A_UnlikeSigns) "__setattr__" = some (some (.builtin "object.__setattr__")))
  (eC_UnlikeSigns : PySem.W.subIn K (.ref A_UnlikeSigns) (.type "BaseException") = some true)
  (tC_UnlikeSigns : PySem.W.typeIn K (.ref A_UnlikeSigns) = some (.type "type"))
  (kC_UnlikeSigns : PySem.W.keepIn K (.ref A_UnlikeSigns) = true)
  (nv_UnlikeSigns : PySem.W.findIn K (.ref A_UnlikeSigns) "value" = some none)
  (ga_UnlikeSigns : PySem.W.findIn K (.ref A_UnlikeSigns) "__getattribute__" = some (some (.builtin "BaseException.__getattribute__")))
  (gg_UnlikeSigns : PySem.W.findIn K (.ref A_UnlikeSigns) "__getattr__" = some none)
  (hd_UnlikeSigns : PySem.W.hasDictIn K A_UnlikeSigns = true)
  (ha_UnlikeSigns : PySem.W.findIn K (.ref A_UnlikeSigns) "__class__" = some (some (.builtin "object.__class__")))
  (hm_UnlikeSigns : PySem.W.mroIn K A_UnlikeSigns (.type "object") = some true)
  (iI_UnlikeSigns : PySem.W.findIn K (.ref A_UnlikeSigns) "__init__" = some (some (.ref fI)))
  (hn : PySem.W.specialIn K (.builtin "object.__class__") "__get__" = some (some (.builtin "getset_descriptor.__get__")))
  (ht : PySem.W.takesIn K (.builtin "object.__class__") = some true)
  (tI : PySem.W.typeIn K (.ref fI) = some (.type "function"))
  (lI : K.lookup fI = some ⟨ocI, odI, .func (PySem.W.fnOf "__init__" "WorthError.__init__" (defArgs s_WorthError___init__) (defBody s_WorthError___init__) (defScope s_WorthError___init__) .none kVI dcI pmI anI cdI ctI), slI⟩)
  (cI : PySem.W.codeIn K cdI "WorthError.__init__" = true)
  (kI : PySem.W.keepIn K (.ref fI) = true)
  (vV : PySem.W.findCls K (.type "ValueError") (.type "type") "__init__" = some (.val (.builtin "ValueError.__init__")))
  (s1 : PySem.W.subIn K (.ref A_InvalidNumber) (.ref A_WorthError) = some true)
  (k2 : PySem.W.kitOne K (.ref A_InvalidNumber) (.type "ValueError") = some true)
  (k3 : PySem.W.kitAny K (.ref A_InvalidNumber) [.ref A_InvalidMachine, .ref A_InvalidSigns, .ref A_UnknownSign, .ref A_UnlikeSigns] = some false) :
  ∃ fd : FuncData, (∀ (s : Shared) (u : Value), BindsTo s fd ⟨[u], []⟩ [("_law_script", u)]) ∧ ∀ base : Heap, K.In base → base.Ns mainGlobals mg → FnOk P w K mg base CX0 6 fa fd ["_law_script"] (spD K 1 P_law) := by
  have S_lowest : Std K mg "lowest" s_lowest := ⟨_, _, PySem.W.mg_of X G a_lowest, fun_mk (st := s_lowest) l_lowest q_lowest k_lowest⟩
  have S_is_number : Std K mg "is_number" s_is_number := ⟨_, _, PySem.W.mg_of X G a_is_number, fun_mk (st := s_is_number) l_is_number q_is_number k_is_number⟩
  have S_checked : Std K mg "checked" s_checked := ⟨_, _, PySem.W.mg_of X G a_checked, fun_mk (st := s_checked) l_checked q_checked k_checked⟩
  have S_sum_of : Std K mg "sum_of" s_sum_of := ⟨_, _, PySem.W.mg_of X G a_sum_of, fun_mk (st := s_sum_of) l_sum_of q_sum_of k_sum_of⟩
  have S_product_of : Std K mg "product_of" s_product_of := ⟨_, _, PySem.W.mg_of X G a_product_of, fun_mk (st := s_product_of) l_product_of q_product_of k_product_of⟩
  have S_added : Std K mg "added" s_added := ⟨_, _, PySem.W.mg_of X G a_added, fun_mk (st := s_added) l_added q_added k_added⟩
  have S_product : Std K mg "product" s_product := ⟨_, _, PySem.W.mg_of X G a_product, fun_mk (st := s_product) l_product q_product k_product⟩
  have S_quotient : Std K mg "quotient" s_quotient := ⟨_, _, PySem.W.mg_of X G a_quotient, fun_mk (st := s_quotient) l_quotient q_quotient k_quotient⟩
  have S_power : Std K mg "power" s_power := ⟨_, _, PySem.W.mg_of X G a_power, fun_mk (st := s_power) l_power q_power k_power⟩
  have S__law_deck : Std K mg "_law_deck" s__law_deck := ⟨_, _, PySem.W.mg_of X G a__law_deck, fun_mk (st := s__law_deck) l__law_deck q__law_deck k__law_deck⟩
  have S__law_draw : Std K mg "_law_draw" s__law_draw := ⟨_, _, PySem.W.mg_of X G a__law_draw, fun_mk (st := s__law_draw) l__law_draw q__law_draw k__law_draw⟩
  have S__law_gcd : Std K mg "_law_gcd" s__law_gcd := ⟨_, _, PySem.W.mg_of X G a__law_gcd, fun_mk (st := s__law_gcd) l__law_gcd q__law_gcd k__law_gcd⟩
  have S__law_pair : Std K mg "_law_pair" s__law_pair := ⟨_, _, PySem.W.mg_of X G a__law_pair, fun_mk (st := s__law_pair) l__law_pair q__law_pair k__law_pair⟩
  have S__law_alike : Std K mg "_law_alike" s__law_alike := ⟨_, _, PySem.W.mg_of X G a__law_alike, fun_mk (st := s__law_alike) l__law_alike q__law_alike k__law_alike⟩
  have S__law_number : Std K mg "_law_number" s__law_number := ⟨_, _, PySem.W.mg_of X G a__law_number, fun_mk (st := s__law_number) l__law_number q__law_number k__law_number⟩
  have S__law_two : Std K mg "_law_two" s__law_two := ⟨_, _, PySem.W.mg_of X G a__law_two, fun_mk (st := s__law_two) l__law_two q__law_two k__law_two⟩
  have S__law_wrong : Std K mg "_law_wrong" s__law_wrong := ⟨_, _, PySem.W.mg_of X G a__law_wrong, fun_mk (st := s__law_wrong) l__law_wrong q__law_wrong k__law_wrong⟩
  have S__law_is_number : Std K mg "_law_is_number" s__law_is_number := ⟨_, _, PySem.W.mg_of X G a__law_is_number, fun_mk (st := s__law_is_number) l__law_is_number q__law_is_number k__law_is_number⟩
  have S__law_told : Std K mg "_law_told" s__law_told := ⟨_, _, PySem.W.mg_of X G a__law_told, fun_mk (st := s__law_told) l__law_told q__law_told k__law_told⟩
  have S__law_due : Std K mg "_law_due" s__law_due := ⟨_, _, PySem.W.mg_of X G a__law_due, fun_mk (st := s__law_due) l__law_due q__law_due k__law_due⟩
  have S_law : Std K mg "law" s_law := ⟨_, _, PySem.W.mg_of X G a_law, fun_mk (st := s_law) l_law q_law k_law⟩
  have n_abs : mg "abs" = none := PySem.W.mg_none_of X G z_abs
  have n_int : mg "int" = none := PySem.W.mg_none_of X G z_int
  have n_isinstance : mg "isinstance" = none := PySem.W.mg_none_of X G z_isinstance
  have n_list : mg "list" = none := PySem.W.mg_none_of X G z_list
  have n_tuple : mg "tuple" = none := PySem.W.mg_none_of X G z_tuple
  have n_len : mg "len" = none := PySem.W.mg_none_of X G z_len
  have n_zip : mg "zip" = none := PySem.W.mg_none_of X G z_zip
  have n_str : mg "str" = none := PySem.W.mg_none_of X G z_str
  have n_bool : mg "bool" = none := PySem.W.mg_none_of X G z_bool
  have n_range : mg "range" = none := PySem.W.mg_none_of X G z_range
  have n_ValueError : mg "ValueError" = none := PySem.W.mg_none_of X G z_ValueError
  have m_gcd : mg "gcd" = some (.builtin "math.gcd") := PySem.W.mg_of X G z_gcd
  have X_WorthError : ExcD K mg "WorthError" A_WorthError fI := ⟨PySem.W.mg_of X G aC_WorthError, ⟨⟨⟨_, _, _, _, _, _, _, _, _, _, _, _, _, _, _, xC_WorthError, rC_WorthError⟩, sa_WorthError, eC_WorthError, tC_WorthError, kC_WorthError⟩, nv_WorthError, ga_WorthError, gg_WorthError, hd_WorthError, ha_WorthError, hm_WorthError⟩, iI_WorthError⟩
  have X_InvalidNumber : ExcD K mg "InvalidNumber" A_InvalidNumber fI := ⟨PySem.W.mg_of X G aC_InvalidNumber, ⟨⟨⟨_, _, _, _, _, _, _, _, _, _, _, _, _, _, _, xC_InvalidNumber, rC_InvalidNumber⟩, sa_InvalidNumber, eC_InvalidNumber, tC_InvalidNumber, kC_InvalidNumber⟩, nv_InvalidNumber, ga_InvalidNumber, gg_InvalidNumber, hd_InvalidNumber, ha_InvalidNumber, hm_InvalidNumber⟩, iI_InvalidNumber⟩
  have X_InvalidSigns : ExcD K mg "InvalidSigns" A_InvalidSigns fI := ⟨PySem.W.mg_of X G aC_InvalidSigns, ⟨⟨⟨_, _, _, _, _, _, _, _, _, _, _, _, _, _, _, xC_InvalidSigns, rC_InvalidSigns⟩, sa_InvalidSigns, eC_InvalidSigns, tC_InvalidSigns, kC_InvalidSigns⟩, nv_InvalidSigns, ga_InvalidSigns, gg_InvalidSigns, hd_InvalidSigns, ha_InvalidSigns, hm_InvalidSigns⟩, iI_InvalidSigns⟩
  have X_UnknownSign : ExcD K mg "UnknownSign" A_UnknownSign fI := ⟨PySem.W.mg_of X G aC_UnknownSign, ⟨⟨⟨_, _, _, _, _, _, _, _, _, _, _, _, _, _, _, xC_UnknownSign, rC_UnknownSign⟩, sa_UnknownSign, eC_UnknownSign, tC_UnknownSign, kC_UnknownSign⟩, nv_UnknownSign, ga_UnknownSign, gg_UnknownSign, hd_UnknownSign, ha_UnknownSign, hm_UnknownSign⟩, iI_UnknownSign⟩
  have X_InvalidMachine : ExcD K mg "InvalidMachine" A_InvalidMachine fI := ⟨PySem.W.mg_of X G aC_InvalidMachine, ⟨⟨⟨_, _, _, _, _, _, _, _, _, _, _, _, _, _, _, xC_InvalidMachine, rC_InvalidMachine⟩, sa_InvalidMachine, eC_InvalidMachine, tC_InvalidMachine, kC_InvalidMachine⟩, nv_InvalidMachine, ga_InvalidMachine, gg_InvalidMachine, hd_InvalidMachine, ha_InvalidMachine, hm_InvalidMachine⟩, iI_InvalidMachine⟩
  have X_UnlikeSigns : ExcD K mg "UnlikeSigns" A_UnlikeSigns fI := ⟨PySem.W.mg_of X G aC_UnlikeSigns, ⟨⟨⟨_, _, _, _, _, _, _, _, _, _, _, _, _, _, _, xC_UnlikeSigns, rC_UnlikeSigns⟩, sa_UnlikeSigns, eC_UnlikeSigns, tC_UnlikeSigns, kC_UnlikeSigns⟩, nv_UnlikeSigns, ga_UnlikeSigns, gg_UnlikeSigns, hd_UnlikeSigns, ha_UnlikeSigns, hm_UnlikeSigns⟩, iI_UnlikeSigns⟩
  have Gc : ClsG K := ⟨hn, ht⟩
  have FI := fun_mk (st := s_WorthError___init__) lI cI kI
  have e := hfa.symm.trans (PySem.W.mg_of X G a_law)
  cases e
  have Fl := fun_mk (st := s_law) l_law q_law k_law
  refine ⟨_, fun s u => .of_eq rfl, fun base _ _ => cal_at (x := "law") (st := s_law) ?_ hfa Fl⟩
  have G_init : IniD P w K mg base fI := ⟨_, tI, ini_ok FI sc_WorthError___init__ (fun cdv A outer s H E => pss_cons (ps_expr (pe_veinit (by rfl) n_ValueError vV (pa_cons (pv 0) (pa_cons (pv 1) pa_nil)))) (pss_one (ps_ost (pv 0) (pv 1)))), FI.binds (ps := ["self", "value"]) fun _ _ _ _ _ _ us hl => match us, hl with | [_, _], _ => rfl⟩
  have k1 := PySem.W.exm_ref eC_WorthError hd_WorthError tC_WorthError s1
  have C_lowest := c_lowest (P := P) (w := w) (base := base) S_lowest m_gcd
  have C_is_number := c_is_number (P := P) (w := w) (base := base) S_is_number m_gcd
  have C_checkedX := c_checkedX S_checked X_InvalidNumber G_init C_is_number
  have C_sum_of := c_sum_of S_sum_of C_lowest
  have C_product_of := c_product_of S_product_of C_lowest
  have C_addedX := c_addedX S_added C_checkedX C_sum_of
  have C_productX := c_productX S_product C_checkedX C_product_of
  have C_quotientX := c_quotientX S_quotient X_InvalidNumber G_init C_checkedX C_lowest
  have C_powerX := c_powerX S_power n_range X_InvalidNumber G_init C_checkedX
  have C_deck := c_deck (P := P) (w := w) (base := base) S__law_deck n_int
  have C_draw := c_draw (P := P) (w := w) (base := base) S__law_draw n_int
  have C_gcd := c_gcd (P := P) (w := w) (base := base) S__law_gcd n_abs n_int
  have C_pair := c_pair S__law_pair C_gcd
  have C_alike : Cal P w K mg base CX0 5 "_law_alike" s__law_alike ["_law_found", "_law_due_here"] (spD K 2 (P_alike 5)) := c_alike S__law_alike n_isinstance n_list n_tuple n_len n_zip n_str n_bool n_int 5
  have C_num := c_num S__law_number C_draw C_pair
  have C_two := c_two S__law_two C_draw C_pair C_num
  have C_wrong := c_wrong S__law_wrong C_draw
  have C_isnum := c_isnum S__law_is_number C_gcd
  have C_told := c_told S__law_told n_isinstance n_ValueError X_InvalidNumber X_WorthError X_InvalidMachine X_InvalidSigns X_UnknownSign X_UnlikeSigns Gc k1 k2 k3 C_addedX C_productX C_quotientX C_powerX
  have C_due := c_due S__law_due n_range C_isnum C_pair
  exact c_law S_law n_range n_list C_deck C_draw C_two C_wrong C_told C_due C_alike
end DL
open PySem PySem.W PyProof.Rows
set_option maxRecDepth 100000 in
set_option maxHeartbeats 0 in
theorem PySem.Challenge.cw_textworths_k02_sums_products_quotients_p_holds : PySem.Challenge.rw_textworths_k02_sums_products_quotients_p.Holds := by
  w_on; o_law; k_head; (case hw => w_witness2)
  k_fill
  refine L2.walk_ofB (n := 63) (k := 6) (x := "_law_script") (CX := fun _ => L2.CX0) (sp := fun w => DL.spD _ 1 DL.P_law) rfl (by decide) rfl ⟨rfl, by decide, by decide⟩ (fun w h Y => PySem.W.kIn_of Y) ?F (fun w H a ns hl hb hO hs => DL.sp_start (DL.law_end) H a ns hl hb hO hs) (fun _ _ _ _ _ z => z)
  case F =>
    intro w mg fa h KX G hmg
    refine' DL.all_mk KX G hmg ?a_lowest ?l_lowest ?q_lowest ?k_lowest ?a_is_number ?l_is_number ?q_is_number ?k_is_number ?a_checked ?l_checked ?q_checked ?k_checked ?a_sum_of ?l_sum_of ?q_sum_of ?k_sum_of ?a_product_of ?l_product_of ?q_product_of ?k_product_of ?a_added ?l_added ?q_added ?k_added ?a_product ?l_product ?q_product ?k_product ?a_quotient ?l_quotient ?q_quotient ?k_quotient ?a_power ?l_power ?q_power ?k_power ?a__law_deck ?l__law_deck ?q__law_deck ?k__law_deck ?a__law_draw ?l__law_draw ?q__law_draw ?k__law_draw ?a__law_gcd ?l__law_gcd ?q__law_gcd ?k__law_gcd ?a__law_pair ?l__law_pair ?q__law_pair ?k__law_pair ?a__law_alike ?l__law_alike ?q__law_alike ?k__law_alike ?a__law_number ?l__law_number ?q__law_number ?k__law_number ?a__law_two ?l__law_two ?q__law_two ?k__law_two ?a__law_wrong ?l__law_wrong ?q__law_wrong ?k__law_wrong ?a__law_is_number ?l__law_is_number ?q__law_is_number ?k__law_is_number ?a__law_told ?l__law_told ?q__law_told ?k__law_told ?a__law_due ?l__law_due ?q__law_due ?k__law_due ?a_law ?l_law ?q_law ?k_law ?z_abs ?z_int ?z_isinstance ?z_list ?z_tuple ?z_len ?z_zip ?z_str ?z_bool ?z_range ?z_ValueError ?z_gcd ?aC_WorthError ?xC_WorthError ?rC_WorthError ?sa_WorthError ?eC_WorthError ?tC_WorthError ?kC_WorthError ?nv_WorthError ?ga_WorthError ?gg_WorthError ?hd_WorthError ?ha_WorthError ?hm_WorthError ?iI_WorthError ?aC_InvalidNumber ?xC_InvalidNumber ?rC_InvalidNumber ?sa_InvalidNumber ?eC_InvalidNumber ?tC_InvalidNumber ?kC_InvalidNumber ?nv_InvalidNumber ?ga_InvalidNumber ?gg_InvalidNumber ?hd_InvalidNumber ?ha_InvalidNumber ?hm_InvalidNumber ?iI_InvalidNumber ?aC_InvalidSigns ?xC_InvalidSigns ?rC_InvalidSigns ?sa_InvalidSigns ?eC_InvalidSigns ?tC_InvalidSigns ?kC_InvalidSigns ?nv_InvalidSigns ?ga_InvalidSigns ?gg_InvalidSigns ?hd_InvalidSigns ?ha_InvalidSigns ?hm_InvalidSigns ?iI_InvalidSigns ?aC_UnknownSign ?xC_UnknownSign ?rC_UnknownSign ?sa_UnknownSign ?eC_UnknownSign ?tC_UnknownSign ?kC_UnknownSign ?nv_UnknownSign ?ga_UnknownSign ?gg_UnknownSign ?hd_UnknownSign ?ha_UnknownSign ?hm_UnknownSign ?iI_UnknownSign ?aC_InvalidMachine ?xC_InvalidMachine ?rC_InvalidMachine ?sa_InvalidMachine ?eC_InvalidMachine ?tC_InvalidMachine ?kC_InvalidMachine ?nv_InvalidMachine ?ga_InvalidMachine ?gg_InvalidMachine ?hd_InvalidMachine ?ha_InvalidMachine ?hm_InvalidMachine ?iI_InvalidMachine ?aC_UnlikeSigns ?xC_UnlikeSigns ?rC_UnlikeSigns ?sa_UnlikeSigns ?eC_UnlikeSigns ?tC_UnlikeSigns ?kC_UnlikeSigns ?nv_UnlikeSigns ?ga_UnlikeSigns ?gg_UnlikeSigns ?hd_UnlikeSigns ?ha_UnlikeSigns ?hm_UnlikeSigns ?iI_UnlikeSigns ?hn ?ht ?tI ?lI ?cI ?kI ?vV ?s1 ?k2 ?k3
    (case a_lowest => k_is)
    (case l_lowest => k_is)
    (case q_lowest => k_is)
    (case k_lowest => k_is)
    (case a_is_number => k_is)
    (case l_is_number => k_is)
    (case q_is_number => k_is)
    (case k_is_number => k_is)
    (case a_checked => k_is)
    (case l_checked => k_is)
    (case q_checked => k_is)
    (case k_checked => k_is)
    (case a_sum_of => k_is)
    (case l_sum_of => k_is)
    (case q_sum_of => k_is)
    (case k_sum_of => k_is)
    (case a_product_of => k_is)
    (case l_product_of => k_is)
    (case q_product_of => k_is)
    (case k_product_of => k_is)
    (case a_added => k_is)
    (case l_added => k_is)
    (case q_added => k_is)
    (case k_added => k_is)
    (case a_product => k_is)
    (case l_product => k_is)
    (case q_product => k_is)
    (case k_product => k_is)
    (case a_quotient => k_is)
    (case l_quotient => k_is)
    (case q_quotient => k_is)
    (case k_quotient => k_is)
    (case a_power => k_is)
    (case l_power => k_is)
    (case q_power => k_is)
    (case k_power => k_is)
    (case a__law_deck => k_is)
    (case l__law_deck => k_is)
    (case q__law_deck => k_is)
    (case k__law_deck => k_is)
    (case a__law_draw => k_is)
    (case l__law_draw => k_is)
    (case q__law_draw => k_is)
    (case k__law_draw => k_is)
    (case a__law_gcd => k_is)
    (case l__law_gcd => k_is)
    (case q__law_gcd => k_is)
    (case k__law_gcd => k_is)
    (case a__law_pair => k_is)
    (case l__law_pair => k_is)
    (case q__law_pair => k_is)
    (case k__law_pair => k_is)
    (case a__law_alike => k_is)
    (case l__law_alike => k_is)
    (case q__law_alike => k_is)
    (case k__law_alike => k_is)
    (case a__law_number => k_is)
    (case l__law_number => k_is)
    (case q__law_number => k_is)
    (case k__law_number => k_is)
    (case a__law_two => k_is)
    (case l__law_two => k_is)
    (case q__law_two => k_is)
    (case k__law_two => k_is)
    (case a__law_wrong => k_is)
    (case l__law_wrong => k_is)
    (case q__law_wrong => k_is)
    (case k__law_wrong => k_is)
    (case a__law_is_number => k_is)
    (case l__law_is_number => k_is)
    (case q__law_is_number => k_is)
    (case k__law_is_number => k_is)
    (case a__law_told => k_is)
    (case l__law_told => k_is)
    (case q__law_told => k_is)
    (case k__law_told => k_is)
    (case a__law_due => k_is)
    (case l__law_due => k_is)
    (case q__law_due => k_is)
    (case k__law_due => k_is)
    (case a_law => k_is)
    (case l_law => k_is)
    (case q_law => k_is)
    (case k_law => k_is)
    (case z_abs => k_is)
    (case z_int => k_is)
    (case z_isinstance => k_is)
    (case z_list => k_is)
    (case z_tuple => k_is)
    (case z_len => k_is)
    (case z_zip => k_is)
    (case z_str => k_is)
    (case z_bool => k_is)
    (case z_range => k_is)
    (case z_ValueError => k_is)
    (case z_gcd => k_is)
    (case aC_WorthError => k_is)
    (case xC_WorthError => k_is)
    (case rC_WorthError => decide +kernel)
    (case sa_WorthError => k_is)
    (case eC_WorthError => k_is)
    (case tC_WorthError => k_is)
    (case kC_WorthError => k_is)
    (case nv_WorthError => k_is)
    (case ga_WorthError => k_is)
    (case gg_WorthError => k_is)
    (case hd_WorthError => k_is)
    (case ha_WorthError => k_is)
    (case hm_WorthError => k_is)
    (case iI_WorthError => k_is)
    (case aC_InvalidNumber => k_is)
    (case xC_InvalidNumber => k_is)
    (case rC_InvalidNumber => decide +kernel)
    (case sa_InvalidNumber => k_is)
    (case eC_InvalidNumber => k_is)
    (case tC_InvalidNumber => k_is)
    (case kC_InvalidNumber => k_is)
    (case nv_InvalidNumber => k_is)
    (case ga_InvalidNumber => k_is)
    (case gg_InvalidNumber => k_is)
    (case hd_InvalidNumber => k_is)
    (case ha_InvalidNumber => k_is)
    (case hm_InvalidNumber => k_is)
    (case iI_InvalidNumber => k_is)
    (case aC_InvalidSigns => k_is)
    (case xC_InvalidSigns => k_is)
    (case rC_InvalidSigns => decide +kernel)
    (case sa_InvalidSigns => k_is)
    (case eC_InvalidSigns => k_is)
    (case tC_InvalidSigns => k_is)
    (case kC_InvalidSigns => k_is)
    (case nv_InvalidSigns => k_is)
    (case ga_InvalidSigns => k_is)
    (case gg_InvalidSigns => k_is)
    (case hd_InvalidSigns => k_is)
    (case ha_InvalidSigns => k_is)
    (case hm_InvalidSigns => k_is)
    (case iI_InvalidSigns => k_is)
    (case aC_UnknownSign => k_is)
    (case xC_UnknownSign => k_is)
    (case rC_UnknownSign => decide +kernel)
    (case sa_UnknownSign => k_is)
    (case eC_UnknownSign => k_is)
    (case tC_UnknownSign => k_is)
    (case kC_UnknownSign => k_is)
    (case nv_UnknownSign => k_is)
    (case ga_UnknownSign => k_is)
    (case gg_UnknownSign => k_is)
    (case hd_UnknownSign => k_is)
    (case ha_UnknownSign => k_is)
    (case hm_UnknownSign => k_is)
    (case iI_UnknownSign => k_is)
    (case aC_InvalidMachine => k_is)
    (case xC_InvalidMachine => k_is)
    (case rC_InvalidMachine => decide +kernel)
    (case sa_InvalidMachine => k_is)
    (case eC_InvalidMachine => k_is)
    (case tC_InvalidMachine => k_is)
    (case kC_InvalidMachine => k_is)
    (case nv_InvalidMachine => k_is)
    (case ga_InvalidMachine => k_is)
    (case gg_InvalidMachine => k_is)
    (case hd_InvalidMachine => k_is)
    (case ha_InvalidMachine => k_is)
    (case hm_InvalidMachine => k_is)
    (case iI_InvalidMachine => k_is)
    (case aC_UnlikeSigns => k_is)
    (case xC_UnlikeSigns => k_is)
    (case rC_UnlikeSigns => decide +kernel)
    (case sa_UnlikeSigns => k_is)
    (case eC_UnlikeSigns => k_is)
    (case tC_UnlikeSigns => k_is)
    (case kC_UnlikeSigns => k_is)
    (case nv_UnlikeSigns => k_is)
    (case ga_UnlikeSigns => k_is)
    (case gg_UnlikeSigns => k_is)
    (case hd_UnlikeSigns => k_is)
    (case ha_UnlikeSigns => k_is)
    (case hm_UnlikeSigns => k_is)
    (case iI_UnlikeSigns => k_is)
    (case hn => k_is)
    (case ht => k_is)
    (case tI => k_is)
    (case lI => k_is)
    (case cI => k_is)
    (case kI => k_is)
    (case vV => k_is)
    (case s1 => first | rfl | k_is)
    (case k2 => kit_is)
    (case k3 => kit_is)
