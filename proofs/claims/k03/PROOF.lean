import PyProof.Rows.All
import Wide.All
import OpenK.AllK
import Wide.FinOn
import HandS.ForMost
import HandS.ForExc
import HandS.Walk
import HandS.Wide
import HandS.Gcd
import HandS.IsInst
import HandS.Zip
import HandS.ExcInit
import HandS.Style
import HandS.ExcIs
import HandS.ExcField
import HandS.ExcSuper
import KE.KExcIs
import HandS.More
import HandS.EndBits
import HandS.MakeKwOnly
import HandS.Property
import HandS.DictComp
import HandS.Star
import PySem.Challenge.RW_textworths_k03_machines_refused
set_option Elab.async false
set_option linter.all false
set_option maxRecDepth 100000
set_option maxHeartbeats 2000001
namespace DL
open PySem PySem.Spec PyProof.Rows L2 RZ
/-- data as a whole: a value with all that hangs on it; .at a: the object at a, that may change -/
inductive D where
  | non | bl (b : Bool) | int (i : Int) | str (x : Str) | ty (n : String)
  | tup (ds : List D) | lst (ds : List D) | frz (ds : List D)
  | dct (ks : List Key) (ds : List D)
  | obj (C : Addr) (fs : List Str) (ds : List D)
  | exc (C : Addr) (d : D)
  | at (a : Addr)
/-- what may change -/
inductive MO where
  | lst (ds : List D) | dct (ks : List Key) (ds : List D) | obj (C : Addr) (fs : List Str) (ds : List D)
abbrev Mu := Addr → Option MO
abbrev Ro := List (Option D)
def mput (μ : Mu) (a : Addr) (o : MO) : Mu := fun b => if b = a then some o else μ b
def mcut (μ : Mu) (a : Addr) : Mu := fun b => if b = a then none else μ b
theorem mput_same {μ : Mu} {a : Addr} {o : MO} : mput μ a o a = some o := by unfold mput; rw [if_pos rfl]
theorem mput_ne {μ : Mu} {a b : Addr} {o : MO} (h : b ≠ a) : mput μ a o b = μ b := by unfold mput; rw [if_neg h]
theorem mcut_same {μ : Mu} {a : Addr} : mcut μ a a = none := by unfold mcut; rw [if_pos rfl]
theorem mcut_ne {μ : Mu} {a b : Addr} (h : b ≠ a) : mcut μ a b = μ b := by unfold mcut; rw [if_neg h]
theorem mput_none {μ : Mu} {a b : Addr} {o : MO} (h : mput μ a o b = none) : b ≠ a ∧ μ b = none := by
  by_cases e : b = a
  · rw [e, mput_same] at h; cases h
  · rw [mput_ne e] at h; exact ⟨e, h⟩

/-- an exception's object -/
def ExT (a C dx : Addr) : HO := .ext fun h => ∃ (oe : Obj) (vs : Array Value), h.get? a = some oe ∧ oe.cls = .ref C ∧ oe.dict = some dx ∧ oe.data = .fields vs

/-- something of the written part, or something tracked that stays as it is -/
def StS (K : PySem.W.Frag) (μ : Mu) (H : Hp) (p : Addr) (vs : List V) : Prop := (μ p = none ∧ Rd H p (.lst vs)) ∨
    ∃ (o : Obj) (its : Array Value) (n : Nat), K.lookup p = some o ∧ o.cls = .type "list" ∧ o.dict = none ∧ o.data = .seq its n ∧ its.size ≤ sizeLine ∧ Vals vs its.toList
def StT (K : PySem.W.Frag) (μ : Mu) (H : Hp) (p : Addr) (vs : List V) : Prop := (μ p = none ∧ Rd H p (.tup vs)) ∨
    ∃ (o : Obj) (its : Array Value) (n : Nat), K.lookup p = some o ∧ o.cls = .type "tuple" ∧ o.data = .seq its n ∧ its.size ≤ sizeLine ∧ Vals vs its.toList
theorem StS.sq {K : PySem.W.Frag} {μ : Mu} {H : Hp} {p : Addr} {vs : List V} (h : StS K μ H p vs) : SqL K H p vs := by
  rcases h with h | h
  · exact .inl h.2
  · exact .inr h
theorem StT.sq {K : PySem.W.Frag} {μ : Mu} {H : Hp} {p : Addr} {vs : List V} (h : StT K μ H p vs) : SqT K H p vs := by
  rcases h with h | h
  · exact .inl h.2
  · exact .inr h

mutual
/-- the value v is the data d -/
def Den (K : PySem.W.Frag) (μ : Mu) (H : Hp) : D → V → Prop
  | .non, v => v = .non
  | .bl b, v => v = .bl b
  | .int i, v => v = .int i
  | .str x, v => v = .str x
  | .ty n, v => v = .ty n
  | .at a, v => v = .ref a
  | .tup ds, v => ∃ p vs, v = .ref p ∧ StT K μ H p vs ∧ DenL K μ H ds vs
  | .lst ds, v => ∃ p vs, v = .ref p ∧ (μ p = none ∧ H p = some (.lst vs)) ∧ DenL K μ H ds vs
  | .frz ds, v => ∃ p vs, v = .ref p ∧ StS K μ H p vs ∧ DenL K μ H ds vs
  | .dct ks ds, v => ∃ p vs, v = .ref p ∧ (μ p = none ∧ H p = some (.dK (ks.zip vs))) ∧ ks.length = vs.length ∧ DenL K μ H ds vs
  | .obj C fs ds, v => ∃ p dx vs, v = .ref p ∧ (μ p = none ∧ H p = some (.ins C dx (fs.zip vs))) ∧ fs.length = vs.length ∧ DenL K μ H ds vs
  | .exc C d, v => ∃ p dx w, v = .ref p ∧ (μ p = none ∧ H p = some (ExT p C dx)) ∧ (μ dx = none ∧ H dx = some (.xd [(("value" : Str), w)])) ∧ Den K μ H d w
def DenL (K : PySem.W.Frag) (μ : Mu) (H : Hp) : List D → List V → Prop
  | [], vs => vs = []
  | d :: ds, vs => ∃ w ws, vs = w :: ws ∧ Den K μ H d w ∧ DenL K μ H ds ws
end

/-- what stays: all that is tracked and may not change -/
def Grow (μ : Mu) (H : Hp) (μ' : Mu) (H' : Hp) : Prop := ∀ b o, μ b = none → H b = some o → μ' b = none ∧ H' b = some o
theorem Grow.refl (μ : Mu) (H : Hp) : Grow μ H μ H := fun _ _ h e => ⟨h, e⟩
theorem Grow.trans {μ μ1 μ2 : Mu} {H H1 H2 : Hp} (a : Grow μ H μ1 H1) (b : Grow μ1 H1 μ2 H2) : Grow μ H μ2 H2 := fun p o h e => by
  obtain ⟨h1, e1⟩ := a p o h e
  exact b p o h1 e1
theorem Grow.rd {μ μ' : Mu} {H H' : Hp} (g : Grow μ H μ' H') {p : Addr} {u : HO} (h : μ p = none) (r : Rd H p u) : μ' p = none ∧ Rd H' p u := by
  rcases r with r | ⟨o, r⟩
  · exact ⟨(g p _ h r).1, .inl (g p _ h r).2⟩
  · exact ⟨(g p _ h r).1, .inr ⟨o, (g p _ h r).2⟩⟩
theorem Grow.stS {K : PySem.W.Frag} {μ μ' : Mu} {H H' : Hp} (g : Grow μ H μ' H') {p : Addr} {vs : List V} (h : StS K μ H p vs) : StS K μ' H' p vs := by
  rcases h with ⟨a, b⟩ | h
  · exact .inl (g.rd a b)
  · exact .inr h
theorem Grow.stT {K : PySem.W.Frag} {μ μ' : Mu} {H H' : Hp} (g : Grow μ H μ' H') {p : Addr} {vs : List V} (h : StT K μ H p vs) : StT K μ' H' p vs := by
  rcases h with ⟨a, b⟩ | h
  · exact .inl (g.rd a b)
  · exact .inr h
mutual
theorem Den.grow {K : PySem.W.Frag} {μ μ' : Mu} {H H' : Hp} (g : Grow μ H μ' H') : ∀ (d : D) (v : V), Den K μ H d v → Den K μ' H' d v
  | .non, v, h => by unfold Den at h ⊢; exact h
  | .bl b, v, h => by unfold Den at h ⊢; exact h
  | .int i, v, h => by unfold Den at h ⊢; exact h
  | .str x, v, h => by unfold Den at h ⊢; exact h
  | .ty n, v, h => by unfold Den at h ⊢; exact h
  | .at a, v, h => by unfold Den at h ⊢; exact h
  | .tup ds, v, h => by
    unfold Den at h ⊢
    obtain ⟨p, vs, e, s, l⟩ := h
    exact ⟨p, vs, e, g.stT s, DenL.grow g ds vs l⟩
  | .lst ds, v, h => by
    unfold Den at h ⊢
    obtain ⟨p, vs, e, s, l⟩ := h
    exact ⟨p, vs, e, g p _ s.1 s.2, DenL.grow g ds vs l⟩
  | .frz ds, v, h => by
    unfold Den at h ⊢
    obtain ⟨p, vs, e, s, l⟩ := h
    exact ⟨p, vs, e, g.stS s, DenL.grow g ds vs l⟩
  | .dct ks ds, v, h => by
    unfold Den at h ⊢
    obtain ⟨p, vs, e, s, n, l⟩ := h
    exact ⟨p, vs, e, g p _ s.1 s.2, n, DenL.grow g ds vs l⟩
  | .obj C fs ds, v, h => by
    unfold Den at h ⊢
    obtain ⟨p, dx, vs, e, s, n, l⟩ := h
    exact ⟨p, dx, vs, e, g p _ s.1 s.2, n, DenL.grow g ds vs l⟩
  | .exc C d, v, h => by
    unfold Den at h ⊢
    obtain ⟨p, dx, w, e, s, t, l⟩ := h
    exact ⟨p, dx, w, e, g p _ s.1 s.2, g dx _ t.1 t.2, Den.grow g d w l⟩
theorem DenL.grow {K : PySem.W.Frag} {μ μ' : Mu} {H H' : Hp} (g : Grow μ H μ' H') : ∀ (ds : List D) (vs : List V), DenL K μ H ds vs → DenL K μ' H' ds vs
  | [], vs, h => by unfold DenL at h ⊢; exact h
  | d :: ds, vs, h => by
    unfold DenL at h ⊢
    obtain ⟨w, ws, e, a, b⟩ := h
    exact ⟨w, ws, e, Den.grow g d w a, DenL.grow g ds ws b⟩
end
/-- fewer things that may change -/
def Less (μ μ' : Mu) : Prop := ∀ b, μ b = none → μ' b = none
mutual
theorem Den.less {K : PySem.W.Frag} {μ μ' : Mu} {H : Hp} (g : Less μ μ') : ∀ (d : D) (v : V), Den K μ H d v → Den K μ' H d v
  | .non, v, h => by unfold Den at h ⊢; exact h
  | .bl b, v, h => by unfold Den at h ⊢; exact h
  | .int i, v, h => by unfold Den at h ⊢; exact h
  | .str x, v, h => by unfold Den at h ⊢; exact h
  | .ty n, v, h => by unfold Den at h ⊢; exact h
  | .at a, v, h => by unfold Den at h ⊢; exact h
  | .tup ds, v, h => by
    unfold Den at h ⊢
    obtain ⟨p, vs, e, s, l⟩ := h
    refine ⟨p, vs, e, ?_, DenL.less g ds vs l⟩
    rcases s with ⟨a, b⟩ | s
    · exact .inl ⟨g _ a, b⟩
    · exact .inr s
  | .lst ds, v, h => by
    unfold Den at h ⊢
    obtain ⟨p, vs, e, s, l⟩ := h
    exact ⟨p, vs, e, ⟨g _ s.1, s.2⟩, DenL.less g ds vs l⟩
  | .frz ds, v, h => by
    unfold Den at h ⊢
    obtain ⟨p, vs, e, s, l⟩ := h
    refine ⟨p, vs, e, ?_, DenL.less g ds vs l⟩
    rcases s with ⟨a, b⟩ | s
    · exact .inl ⟨g _ a, b⟩
    · exact .inr s
  | .dct ks ds, v, h => by
    unfold Den at h ⊢
    obtain ⟨p, vs, e, s, n, l⟩ := h
    exact ⟨p, vs, e, ⟨g _ s.1, s.2⟩, n, DenL.less g ds vs l⟩
  | .obj C fs ds, v, h => by
    unfold Den at h ⊢
    obtain ⟨p, dx, vs, e, s, n, l⟩ := h
    exact ⟨p, dx, vs, e, ⟨g _ s.1, s.2⟩, n, DenL.less g ds vs l⟩
  | .exc C d, v, h => by
    unfold Den at h ⊢
    obtain ⟨p, dx, w, e, s, t, l⟩ := h
    exact ⟨p, dx, w, e, ⟨g _ s.1, s.2⟩, ⟨g _ t.1, t.2⟩, Den.less g d w l⟩
theorem DenL.less {K : PySem.W.Frag} {μ μ' : Mu} {H : Hp} (g : Less μ μ') : ∀ (ds : List D) (vs : List V), DenL K μ H ds vs → DenL K μ' H ds vs
  | [], vs, h => by unfold DenL at h ⊢; exact h
  | d :: ds, vs, h => by
    unfold DenL at h ⊢
    obtain ⟨w, ws, e, a, b⟩ := h
    exact ⟨w, ws, e, Den.less g d w a, DenL.less g ds ws b⟩
end

/-- the object at a is what the store says -/
def MoIs (K : PySem.W.Frag) (μ : Mu) (H : Hp) (a : Addr) : MO → Prop
  | .lst ds => ∃ vs, H a = some (.lst vs) ∧ DenL K μ H ds vs
  | .dct ks ds => ∃ vs, H a = some (.dK (ks.zip vs)) ∧ ks.length = vs.length ∧ DenL K μ H ds vs
  | .obj C fs ds => ∃ dx vs, H a = some (.ins C dx (fs.zip vs)) ∧ fs.length = vs.length ∧ DenL K μ H ds vs
def Mem (K : PySem.W.Frag) (μ : Mu) (H : Hp) : Prop := ∀ a o, μ a = some o → MoIs K μ H a o
/-- the slots -/
def EnvIs (K : PySem.W.Frag) (μ : Mu) (H : Hp) (ρ : Ro) (σ : L2.St) : Prop := σ.length = ρ.length ∧ ∀ (i : Nat) (d : D), ρ[i]? = some (some d) → ∃ v, σ[i]? = some (some v) ∧ Den K μ H d v

section
variable {K : PySem.W.Frag} {μ μ' : Mu} {H H' : Hp} {a : Addr} {ρ : Ro} {σ : L2.St}
theorem Mem.has (m : Mem K μ H) {o : MO} (h : μ a = some o) : ∃ u, H a = some u := by
  have q := m a o h
  cases o with
  | lst ds => obtain ⟨vs, e, _⟩ := q; exact ⟨_, e⟩
  | dct ks ds => obtain ⟨vs, e, _⟩ := q; exact ⟨_, e⟩
  | obj C fs ds => obtain ⟨dx, vs, e, _⟩ := q; exact ⟨_, e⟩
theorem Mem.free (m : Mem K μ H) (h : H a = none) : μ a = none := by
  cases e : μ a with
  | none => rfl
  | some o =>
    obtain ⟨u, q⟩ := m.has e
    rw [h] at q; cases q
theorem MoIs.grow (g : Grow μ H μ' H') {o : MO} (h : MoIs K μ H a o) (e : H' a = H a) : MoIs K μ' H' a o := by
  cases o with
  | lst ds => obtain ⟨vs, q, l⟩ := h; exact ⟨vs, e.trans q, DenL.grow g _ _ l⟩
  | dct ks ds => obtain ⟨vs, q, n, l⟩ := h; exact ⟨vs, e.trans q, n, DenL.grow g _ _ l⟩
  | obj C fs ds => obtain ⟨dx, vs, q, n, l⟩ := h; exact ⟨dx, vs, e.trans q, n, DenL.grow g _ _ l⟩
/-- a new object that is not to change -/
theorem Grow.new {o : HO} (h : H a = none) : Grow μ H μ (upd H a o) := fun b u hb e => ⟨hb, by rw [upd_ne (ne_of_none e h)]; exact e⟩
theorem Mem.new {o : HO} (m : Mem K μ H) (h : H a = none) : Mem K μ (upd H a o) := fun b u e => by
  obtain ⟨w, hw⟩ := m.has e
  exact (m b u e).grow (Grow.new h) (upd_ne (ne_of_none hw h))
/-- a new object that may change -/
theorem Grow.newM {o : HO} {mo : MO} (h : H a = none) : Grow μ H (mput μ a mo) (upd H a o) := fun b u hb e => by
  have ne := ne_of_none e h
  exact ⟨by rw [mput_ne ne]; exact hb, by rw [upd_ne ne]; exact e⟩
theorem Mem.newM {o : HO} {mo : MO} (m : Mem K μ H) (h : H a = none) (n : MoIs K (mput μ a mo) (upd H a o) a mo) : Mem K (mput μ a mo) (upd H a o) := fun b u e => by
  by_cases hb : b = a
  · subst hb
    rw [mput_same] at e; cases e; exact n
  · rw [mput_ne hb] at e
    obtain ⟨w, hw⟩ := m.has e
    exact (m b u e).grow (Grow.newM h) (upd_ne hb)
/-- something that may change does -/
theorem Grow.wr {o : HO} {mo mo' : MO} (h : μ a = some mo) : Grow μ H (mput μ a mo') (upd H a o) := fun b u hb e => by
  have ne : b ≠ a := fun z => by rw [z, h] at hb; cases hb
  exact ⟨by rw [mput_ne ne]; exact hb, by rw [upd_ne ne]; exact e⟩
theorem Mem.wr {o : HO} {mo mo' : MO} (m : Mem K μ H) (h : μ a = some mo) (n : MoIs K (mput μ a mo') (upd H a o) a mo') : Mem K (mput μ a mo') (upd H a o) := fun b u e => by
  by_cases hb : b = a
  · subst hb
    rw [mput_same] at e; cases e; exact n
  · rw [mput_ne hb] at e
    exact (m b u e).grow (Grow.wr h) (upd_ne hb)
theorem Less.cut : Less μ (mcut μ a) := fun b h => by
  by_cases e : b = a
  · rw [e, mcut_same]
  · rw [mcut_ne e]; exact h
theorem MoIs.less (g : Less μ μ') {o : MO} (h : MoIs K μ H a o) : MoIs K μ' H a o := by
  cases o with
  | lst ds => obtain ⟨vs, q, l⟩ := h; exact ⟨vs, q, DenL.less g _ _ l⟩
  | dct ks ds => obtain ⟨vs, q, n, l⟩ := h; exact ⟨vs, q, n, DenL.less g _ _ l⟩
  | obj C fs ds => obtain ⟨dx, vs, q, n, l⟩ := h; exact ⟨dx, vs, q, n, DenL.less g _ _ l⟩
theorem Mem.less (m : Mem K μ H) (g : Less μ μ') (h : ∀ b o, μ' b = some o → μ b = some o) : Mem K μ' H := fun b o e => (m b o (h b o e)).less g
theorem Mem.cut (m : Mem K μ H) : Mem K (mcut μ a) H := m.less Less.cut fun b o e => by
  by_cases h : b = a
  · rw [h, mcut_same] at e; cases e
  · rw [mcut_ne h] at e; exact e
theorem Grow.cut : Grow μ H (mcut μ a) H := fun b o h e => ⟨Less.cut b h, e⟩
/-- forgetting in the store: a Grow ahead of it stands -/
theorem EnvIs.grow (g : Grow μ H μ' H') (h : EnvIs K μ H ρ σ) : EnvIs K μ' H' ρ σ := ⟨h.1, fun i d e => by
  obtain ⟨v, q, r⟩ := h.2 i d e
  exact ⟨v, q, Den.grow g _ _ r⟩⟩
theorem EnvIs.less (g : Less μ μ') (h : EnvIs K μ H ρ σ) : EnvIs K μ' H ρ σ := ⟨h.1, fun i d e => by
  obtain ⟨v, q, r⟩ := h.2 i d e
  exact ⟨v, q, Den.less g _ _ r⟩⟩
theorem EnvIs.set (h : EnvIs K μ H ρ σ) {d : D} {v : V} (r : Den K μ H d v) (i : Nat) : EnvIs K μ H (ρ.set i (some d)) (σ.set i (some v)) := ⟨by rw [List.length_set, List.length_set]; exact h.1, fun j e q => by
  by_cases hj : i = j
  · subst hj
    by_cases hl : i < ρ.length
    · rw [List.getElem?_set_self hl] at q
      cases q
      exact ⟨v, by rw [List.getElem?_set_self (by rw [h.1]; exact hl)], r⟩
    · rw [List.getElem?_eq_none (by rw [List.length_set]; omega)] at q
      cases q
  · rw [List.getElem?_set_ne hj] at q ⊢
    exact h.2 j e q⟩
theorem EnvIs.unset (h : EnvIs K μ H ρ σ) (i : Nat) : EnvIs K μ H (ρ.set i none) (σ.set i none) := ⟨by rw [List.length_set, List.length_set]; exact h.1, fun j e q => by
  by_cases hj : i = j
  · subst hj
    by_cases hl : i < ρ.length
    · rw [List.getElem?_set_self hl] at q
      cases q
    · rw [List.getElem?_eq_none (by rw [List.length_set]; omega)] at q
      cases q
  · rw [List.getElem?_set_ne hj] at q ⊢
    exact h.2 j e q⟩
theorem DenL.length : ∀ {ds : List D} {vs : List V}, DenL K μ H ds vs → ds.length = vs.length
  | [], vs, h => by unfold DenL at h; rw [h] <;> rfl
  | d :: ds, vs, h => by
    unfold DenL at h
    obtain ⟨w, ws, e, _, b⟩ := h
    rw [e, List.length_cons, List.length_cons, DenL.length b]
theorem DenL.get : ∀ {ds : List D} {vs : List V} {i : Nat} {d : D}, DenL K μ H ds vs → ds[i]? = some d → ∃ v, vs[i]? = some v ∧ Den K μ H d v
  | [], vs, i, d, h, e => by simp at e
  | x :: ds, vs, 0, d, h, e => by
    unfold DenL at h
    obtain ⟨w, ws, q, a, b⟩ := h
    have e' : x = d := by simpa using e
    subst e'
    exact ⟨w, by rw [q]; rfl, a⟩
  | x :: ds, vs, i + 1, d, h, e => by
    unfold DenL at h
    obtain ⟨w, ws, q, a, b⟩ := h
    obtain ⟨v, h1, h2⟩ := DenL.get (i := i) (d := d) b (by simpa using e)
    exact ⟨v, by rw [q]; simpa using h1, h2⟩
theorem DenL.at : ∀ {ds : List D} {vs : List V} {i : Nat} {v : V}, DenL K μ H ds vs → vs[i]? = some v → ∃ d, ds[i]? = some d ∧ Den K μ H d v := fun {ds vs i v} h e => by
  have hl := h.length
  have hi : i < vs.length := (List.getElem?_eq_some_iff.mp e).1
  obtain ⟨v', h1, h2⟩ := h.get (i := i) (d := ds[i]'(by omega)) (by simp)
  rw [e] at h1
  cases h1
  exact ⟨_, List.getElem?_eq_getElem (by omega), h2⟩
theorem DenL.nil : DenL K μ H [] [] := by unfold DenL; rfl
theorem DenL.cons {d : D} {ds : List D} {v : V} {vs : List V} (a : Den K μ H d v) (b : DenL K μ H ds vs) : DenL K μ H (d :: ds) (v :: vs) := by
  unfold DenL; exact ⟨v, vs, rfl, a, b⟩
theorem DenL.append : ∀ {ds es : List D} {vs ws : List V}, DenL K μ H ds vs → DenL K μ H es ws → DenL K μ H (ds ++ es) (vs ++ ws)
  | [], es, vs, ws, h, k => by unfold DenL at h; rw [h]; exact k
  | d :: ds, es, vs, ws, h, k => by
    unfold DenL at h
    obtain ⟨w, us, e, a, b⟩ := h
    rw [e]
    exact DenL.cons a (DenL.append b k)
theorem DenL.set {d : D} {v : V} (r : Den K μ H d v) : ∀ {ds : List D} {vs : List V} (i : Nat), DenL K μ H ds vs → DenL K μ H (ds.set i d) (vs.set i v)
  | [], vs, i, h => by unfold DenL at h; rw [h]; exact DenL.nil
  | x :: ds, vs, 0, h => by
    unfold DenL at h
    obtain ⟨w, us, e, a, b⟩ := h
    rw [e]; exact DenL.cons r b
  | x :: ds, vs, i + 1, h => by
    unfold DenL at h
    obtain ⟨w, us, e, a, b⟩ := h
    rw [e]; exact DenL.cons a (DenL.set r i b)
end
abbrev XD := Mu → Ro → Addr → D → Prop
abbrev DP := Mu → D → Prop
/-- the wish about exceptions, over data -/
def LiftX (K : PySem.W.Frag) (μ : Mu) (H : Hp) (X : XD) (W : WX) : Prop := ∀ μ' ρ' C d dx v σ' H', X μ' ρ' C d → Grow μ H μ' H' → Mem K μ' H' → EnvIs K μ' H' ρ' σ' → μ' dx = none → H' dx = some (.xd [(("value" : Str), v)]) → Den K μ' H' d v → W (.ref C) (some dx) σ' H'
def EvX (K : PySem.W.Frag) (W : WX) (X : XD) (μ : Mu) (ρ : Ro) (te : TE) (Φ : DP) : Prop := ∀ (σ : L2.St) (H : Hp) (Q : VK), Mem K μ H → EnvIs K μ H ρ σ → LiftX K μ H X W → (∀ μ' d v H', Φ μ' d → Grow μ H μ' H' → Mem K μ' H' → Den K μ' H' d v → Q v H') → te σ H Q
def EvB (K : PySem.W.Frag) (W : WX) (X : XD) (μ : Mu) (ρ : Ro) (tt : TT) (Φ : Mu → Bool → Prop) : Prop := ∀ (σ : L2.St) (H : Hp) (Q : Bool → Hp → Prop), Mem K μ H → EnvIs K μ H ρ σ → LiftX K μ H X W → (∀ μ' b H', Φ μ' b → Grow μ H μ' H' → Mem K μ' H' → Q b H') → tt σ H Q
def EvL (K : PySem.W.Frag) (W : WX) (X : XD) (μ : Mu) (ρ : Ro) (ta : TA) (Φ : Mu → List D → Prop) : Prop := ∀ (σ : L2.St) (H : Hp) (Q : List V → Hp → Prop), Mem K μ H → EnvIs K μ H ρ σ → LiftX K μ H X W → (∀ μ' ds vs H', Φ μ' ds → Grow μ H μ' H' → Mem K μ' H' → DenL K μ' H' ds vs → Q vs H') → ta σ H Q
/-- a two-place operation, a call of a built-in, over data -/
def OpX (K : PySem.W.Frag) (r : R2) (μ : Mu) (x y : D) (Φ : DP) : Prop := ∀ (H : Hp) (v w : V) (Q : VK), Mem K μ H → Den K μ H x v → Den K μ H y w → (∀ μ' d u H', Φ μ' d → Grow μ H μ' H' → Mem K μ' H' → Den K μ' H' d u → Q u H') → r v w H Q
def UnX (K : PySem.W.Frag) (r : V → Hp → VK → Prop) (μ : Mu) (x : D) (Φ : DP) : Prop := ∀ (H : Hp) (v : V) (Q : VK), Mem K μ H → Den K μ H x v → (∀ μ' d u H', Φ μ' d → Grow μ H μ' H' → Mem K μ' H' → Den K μ' H' d u → Q u H') → r v H Q
def CaX (K : PySem.W.Frag) (r : List V → Hp → VK → Prop) (μ : Mu) (xs : List D) (Φ : DP) : Prop := ∀ (H : Hp) (vs : List V) (Q : VK), Mem K μ H → DenL K μ H xs vs → (∀ μ' d u H', Φ μ' d → Grow μ H μ' H' → Mem K μ' H' → Den K μ' H' d u → Q u H') → r vs H Q
/-- what is wanted behind a statement, over data -/
structure ED where
  nx : Mu → Ro → Prop
  rt : DP
  bk : Mu → Ro → Prop := fun _ _ => False
  ct : Mu → Ro → Prop := fun _ _ => False
structure Lift (K : PySem.W.Frag) (μ : Mu) (H : Hp) (E : ED) (D : Ends) : Prop where
  nx : ∀ μ' ρ' σ' H', E.nx μ' ρ' → Grow μ H μ' H' → Mem K μ' H' → EnvIs K μ' H' ρ' σ' → D.nx σ' H'
  rt : ∀ μ' d v H', E.rt μ' d → Grow μ H μ' H' → Mem K μ' H' → Den K μ' H' d v → D.rt v H'
  bk : ∀ μ' ρ' σ' H', E.bk μ' ρ' → Grow μ H μ' H' → Mem K μ' H' → EnvIs K μ' H' ρ' σ' → D.bk σ' H'
  ct : ∀ μ' ρ' σ' H', E.ct μ' ρ' → Grow μ H μ' H' → Mem K μ' H' → EnvIs K μ' H' ρ' σ' → D.ct σ' H'
def GS (K : PySem.W.Frag) (W : WX) (X : XD) (μ : Mu) (ρ : Ro) (t : TS) (E : ED) : Prop := ∀ (σ : L2.St) (H : Hp) (Dd : Ends), Mem K μ H → EnvIs K μ H ρ σ → LiftX K μ H X W → Lift K μ H E Dd → t Dd σ H
/-- a target -/
def TgX (K : PySem.W.Frag) (W : WX) (X : XD) (μ : Mu) (ρ : Ro) (g : TG) (d : D) (Φ : Mu → Ro → Prop) : Prop := ∀ (σ : L2.St) (H : Hp) (v : V) (Q : L2.St → Hp → Prop), Mem K μ H → EnvIs K μ H ρ σ → LiftX K μ H X W → Den K μ H d v → (∀ μ' ρ' σ' H', Φ μ' ρ' → Grow μ H μ' H' → Mem K μ' H' → EnvIs K μ' H' ρ' σ' → Q σ' H') → g v σ H Q
def TgsX (K : PySem.W.Frag) (W : WX) (X : XD) (μ : Mu) (ρ : Ro) (g : TGs) (ds : List D) (Φ : Mu → Ro → Prop) : Prop := ∀ (σ : L2.St) (H : Hp) (vs : List V) (Q : L2.St → Hp → Prop), Mem K μ H → EnvIs K μ H ρ σ → LiftX K μ H X W → DenL K μ H ds vs → (∀ μ' ρ' σ' H', Φ μ' ρ' → Grow μ H μ' H' → Mem K μ' H' → EnvIs K μ' H' ρ' σ' → Q σ' H') → g vs σ H Q

section
variable {K : PySem.W.Frag} {W : WX} {X : XD} {μ μ' : Mu} {H H' : Hp} {ρ : Ro} {E : ED} {Dd : Ends} {ta tb te tx : TE} {tt tu : TT} {Φ : DP} {Ψ : Mu → Bool → Prop}
theorem LiftX.grow (l : LiftX K μ H X W) (g : Grow μ H μ' H') : LiftX K μ' H' X W := fun m r C d dx v s h x gr => l m r C d dx v s h x (g.trans gr)
theorem Lift.grow (l : Lift K μ H E Dd) (g : Grow μ H μ' H') : Lift K μ' H' E Dd :=
  ⟨fun m r s h x gr => l.nx m r s h x (g.trans gr), fun m r s h x gr => l.rt m r s h x (g.trans gr), fun m r s h x gr => l.bk m r s h x (g.trans gr), fun m r s h x gr => l.ct m r s h x (g.trans gr)⟩
/-! ### expressions -/
theorem evx_var {i : Nat} {d : D} (h : ρ[i]? = some (some d)) (q : Φ μ d) : EvX K W X μ ρ (tVar i) Φ := fun σ H Q m e _ k => by
  obtain ⟨v, h1, h2⟩ := e.2 i d h
  exact ⟨v, h1, k μ d v H q (Grow.refl _ _) m h2⟩
theorem evx_int {n : Int} (q : Φ μ (.int n)) : EvX K W X μ ρ (tC (.int n)) Φ := fun σ H Q m _ _ k => k μ _ _ H q (Grow.refl _ _) m (by unfold Den; rfl)
theorem evx_str {n : Str} (q : Φ μ (.str n)) : EvX K W X μ ρ (tC (.str n)) Φ := fun σ H Q m _ _ k => k μ _ _ H q (Grow.refl _ _) m (by unfold Den; rfl)
theorem evx_bl {n : Bool} (q : Φ μ (.bl n)) : EvX K W X μ ρ (tC (.bl n)) Φ := fun σ H Q m _ _ k => k μ _ _ H q (Grow.refl _ _) m (by unfold Den; rfl)
theorem evx_non (q : Φ μ .non) : EvX K W X μ ρ (tC .non) Φ := fun σ H Q m _ _ k => k μ _ _ H q (Grow.refl _ _) m (by unfold Den; rfl)
theorem evx_ty {n : String} (q : Φ μ (.ty n)) : EvX K W X μ ρ (tC (.ty n)) Φ := fun σ H Q m _ _ k => k μ _ _ H q (Grow.refl _ _) m (by unfold Den; rfl)
/-- the address of something of the module: a class, a def -/
theorem evx_at {a : Addr} (q : Φ μ (.at a)) : EvX K W X μ ρ (tC (.ref a)) Φ := fun σ H Q m _ _ k => k μ _ _ H q (Grow.refl _ _) m (by unfold Den; rfl)
theorem EvX.imp {Φ' : DP} (h : EvX K W X μ ρ te Φ) (i : ∀ m d, Φ m d → Φ' m d) : EvX K W X μ ρ te Φ' := fun σ H Q m e l k => h σ H Q m e l fun m' d v H' p => k m' d v H' (i m' d p)
theorem evx_op {r : R2} (h : EvX K W X μ ρ ta fun μ1 x => EvX K W X μ1 ρ tb fun μ2 y => OpX K r μ2 x y Φ) : EvX K W X μ ρ (tOp r ta tb) Φ := fun σ H Q m e l k =>
  h σ H _ m e l fun μ1 x v H1 h1 g1 m1 d1 => h1 σ H1 _ m1 (e.grow g1) (l.grow g1) fun μ2 y w H2 h2 g2 m2 d2 => h2 H2 v w Q m2 (Den.grow g2 _ _ d1) d2 fun μ' d u H' p g => k μ' d u H' p ((g1.trans g2).trans g)
theorem evx_un {r : V → Hp → VK → Prop} (h : EvX K W X μ ρ ta fun μ1 x => UnX K r μ1 x Φ) : EvX K W X μ ρ (tUn r ta) Φ := fun σ H Q m e l k =>
  h σ H _ m e l fun μ1 x v H1 h1 g1 m1 d1 => h1 H1 v Q m1 d1 fun μ' d u H' p g => k μ' d u H' p (g1.trans g)
theorem evl_nil {Φ : Mu → List D → Prop} (h : Φ μ []) : EvL K W X μ ρ tNil Φ := fun σ H Q m e l k => k μ [] [] H h (Grow.refl _ _) m DenL.nil
theorem evl_cons {tr : TA} {Φ : Mu → List D → Prop} (h : EvX K W X μ ρ te fun μ1 x => EvL K W X μ1 ρ tr fun μ2 ds => Φ μ2 (x :: ds)) : EvL K W X μ ρ (tCons te tr) Φ := fun σ H Q m e l k =>
  h σ H _ m e l fun μ1 x v H1 h1 g1 m1 d1 => h1 σ H1 _ m1 (e.grow g1) (l.grow g1) fun μ2 ds vs H2 h2 g2 m2 d2 => k μ2 _ _ H2 h2 (g1.trans g2) m2 (DenL.cons (Den.grow g2 _ _ d1) d2)
theorem evx_cb {r : List V → Hp → VK → Prop} {t : TA} (h : EvL K W X μ ρ t fun μ1 ds => CaX K r μ1 ds Φ) : EvX K W X μ ρ (tCB r t) Φ := fun σ H Q m e l k =>
  h σ H _ m e l fun μ1 ds vs H1 h1 g1 m1 d1 => h1 H1 vs Q m1 d1 fun μ' d u H' p g => k μ' d u H' p (g1.trans g)
/-! ### displays -/
theorem evx_tup {t : TA} (h : EvL K W X μ ρ t fun μ1 ds => ds.length ≤ 1000 ∧ Φ μ1 (.tup ds)) : EvX K W X μ ρ (tTup t) Φ := fun σ H Q m e l k =>
  h σ H _ m e l fun μ1 ds vs H1 h1 g1 m1 d1 => ⟨by rw [← d1.length]; exact Nat.le_trans h1.1 (by decide), fun p hp => k μ1 _ _ _ h1.2 (g1.trans (Grow.new hp)) (m1.new hp) (by
    unfold Den
    exact ⟨p, vs, rfl, .inl ⟨m1.free hp, .inl upd_same⟩, DenL.grow (Grow.new hp) _ _ d1⟩)⟩
theorem evx_lst {t : TA} (h : EvL K W X μ ρ t fun μ1 ds => ds.length ≤ 1000 ∧ Φ μ1 (.lst ds)) : EvX K W X μ ρ (tLst t) Φ := fun σ H Q m e l k =>
  h σ H _ m e l fun μ1 ds vs H1 h1 g1 m1 d1 => ⟨by rw [← d1.length]; exact Nat.le_trans h1.1 (by decide), fun p hp => k μ1 _ _ _ h1.2 (g1.trans (Grow.new hp)) (m1.new hp) (by
    unfold Den
    exact ⟨p, vs, rfl, ⟨m1.free hp, upd_same⟩, DenL.grow (Grow.new hp) _ _ d1⟩)⟩
/-- a list that will change -/
theorem evx_lstM {t : TA} (h : EvL K W X μ ρ t fun μ1 ds => ds.length ≤ 1000 ∧ ∀ p, μ1 p = none → Φ (mput μ1 p (.lst ds)) (.at p)) : EvX K W X μ ρ (tLst t) Φ := fun σ H Q m e l k =>
  h σ H _ m e l fun μ1 ds vs H1 h1 g1 m1 d1 => ⟨by rw [← d1.length]; exact Nat.le_trans h1.1 (by decide), fun p hp => k _ _ _ _ (h1.2 p (m1.free hp)) (g1.trans (Grow.newM hp)) (m1.newM hp ⟨vs, upd_same, DenL.grow (Grow.newM hp) _ _ d1⟩) (by unfold Den; rfl)⟩
/-! ### tests -/
theorem EvB.imp {Ψ' : Mu → Bool → Prop} (h : EvB K W X μ ρ tt Ψ) (i : ∀ m d, Ψ m d → Ψ' m d) : EvB K W X μ ρ tt Ψ' := fun σ H Q m e l k => h σ H Q m e l fun m' d H' p => k m' d H' (i m' d p)
theorem evb_test (h : EvX K W X μ ρ te fun μ1 d => ∃ b, d = .bl b ∧ Ψ μ1 b) : EvB K W X μ ρ (tTest te) Ψ := fun σ H Q m e l k =>
  h σ H _ m e l fun μ1 d v H1 ⟨b, hd, hp⟩ g1 m1 d1 => ⟨b, by subst hd; unfold Den at d1; exact d1, k μ1 b H1 hp g1 m1⟩
theorem evb_B (h : EvX K W X μ ρ te fun μ1 d => ∃ b, d = .bl b ∧ Ψ μ1 b) : EvB K W X μ ρ (tB te) Ψ := fun σ H Q m e l k =>
  h σ H _ m e l fun μ1 d v H1 ⟨b, hd, hp⟩ g1 m1 d1 => ⟨b, by subst hd; unfold Den at d1; exact d1, k μ1 b H1 hp g1 m1⟩
theorem evb_and (h : EvB K W X μ ρ tt fun μ1 b => if b = true then EvB K W X μ1 ρ tu Ψ else Ψ μ1 false) : EvB K W X μ ρ (tAnd tt tu) Ψ := fun σ H Q m e l k =>
  h σ H _ m e l fun μ1 b H1 h1 g1 m1 => by
    cases b with
    | true => rw [if_pos rfl] at h1 ⊢; exact h1 σ H1 Q m1 (e.grow g1) (l.grow g1) fun μ' b H' p g => k μ' b H' p (g1.trans g)
    | false => rw [if_neg (by decide)] at h1 ⊢; exact k μ1 _ H1 h1 g1 m1
theorem evb_or (h : EvB K W X μ ρ tt fun μ1 b => if b = true then Ψ μ1 true else EvB K W X μ1 ρ tu Ψ) : EvB K W X μ ρ (tOr tt tu) Ψ := fun σ H Q m e l k =>
  h σ H _ m e l fun μ1 b H1 h1 g1 m1 => by
    cases b with
    | false => rw [if_neg (by decide)] at h1 ⊢; exact h1 σ H1 Q m1 (e.grow g1) (l.grow g1) fun μ' b H' p g => k μ' b H' p (g1.trans g)
    | true => rw [if_pos rfl] at h1 ⊢; exact k μ1 _ H1 h1 g1 m1
theorem evb_not (h : EvB K W X μ ρ tt fun μ1 b => Ψ μ1 (!b)) : EvB K W X μ ρ (tNot tt) Ψ := fun σ H Q m e l k => h σ H _ m e l fun μ1 b H1 h1 g1 m1 => k μ1 _ H1 h1 g1 m1
theorem evx_andV (h : EvX K W X μ ρ ta fun μ1 d => ∃ b, d = .bl b ∧ if b = true then EvX K W X μ1 ρ tb Φ else Φ μ1 (.bl false)) : EvX K W X μ ρ (tAndV ta tb) Φ := fun σ H Q m e l k =>
  h σ H _ m e l fun μ1 d v H1 ⟨b, hd, h1⟩ g1 m1 d1 => ⟨b, by subst hd; unfold Den at d1; exact d1, by
    cases b with
    | true => rw [if_pos rfl] at h1 ⊢; exact h1 σ H1 Q m1 (e.grow g1) (l.grow g1) fun μ' b v H' p g => k μ' b v H' p (g1.trans g)
    | false => rw [if_neg (by decide)] at h1 ⊢; exact k μ1 _ _ H1 h1 g1 m1 (by unfold Den; rfl)⟩
theorem evx_orV (h : EvX K W X μ ρ ta fun μ1 d => ∃ b, d = .bl b ∧ if b = true then Φ μ1 (.bl true) else EvX K W X μ1 ρ tb Φ) : EvX K W X μ ρ (tOrV ta tb) Φ := fun σ H Q m e l k =>
  h σ H _ m e l fun μ1 d v H1 ⟨b, hd, h1⟩ g1 m1 d1 => ⟨b, by subst hd; unfold Den at d1; exact d1, by
    cases b with
    | false => rw [if_neg (by decide)] at h1 ⊢; exact h1 σ H1 Q m1 (e.grow g1) (l.grow g1) fun μ' b v H' p g => k μ' b v H' p (g1.trans g)
    | true => rw [if_pos rfl] at h1 ⊢; exact k μ1 _ _ H1 h1 g1 m1 (by unfold Den; rfl)⟩
theorem evx_notV (h : EvX K W X μ ρ ta fun μ1 d => ∃ b, d = .bl b ∧ Φ μ1 (.bl (!b))) : EvX K W X μ ρ (tNotV ta) Φ := fun σ H Q m e l k =>
  h σ H _ m e l fun μ1 d v H1 ⟨b, hd, h1⟩ g1 m1 d1 => ⟨b, by subst hd; unfold Den at d1; exact d1, k μ1 _ _ H1 h1 g1 m1 (by unfold Den; rfl)⟩
theorem evx_if (h : EvB K W X μ ρ tt fun μ1 b => if b = true then EvX K W X μ1 ρ ta Φ else EvX K W X μ1 ρ tb Φ) : EvX K W X μ ρ (tIf tt ta tb) Φ := fun σ H Q m e l k =>
  h σ H _ m e l fun μ1 b H1 h1 g1 m1 => by
    cases b with
    | true => rw [if_pos rfl] at h1 ⊢; exact h1 σ H1 Q m1 (e.grow g1) (l.grow g1) fun μ' b v H' p g => k μ' b v H' p (g1.trans g)
    | false => rw [if_neg (by decide)] at h1 ⊢; exact h1 σ H1 Q m1 (e.grow g1) (l.grow g1) fun μ' b v H' p g => k μ' b v H' p (g1.trans g)
/-! ### statements -/
variable {t u : TS} {g : TG}
theorem GS.imp {E' : ED} (h : GS K W X μ ρ t E) (h1 : ∀ m r, E.nx m r → E'.nx m r) (h2 : ∀ m r, E.rt m r → E'.rt m r) (h3 : ∀ m r, E.bk m r → E'.bk m r) (h4 : ∀ m r, E.ct m r → E'.ct m r) : GS K W X μ ρ t E' := fun σ H D m e l k =>
  h σ H D m e l ⟨fun m r s h x => k.nx m r s h (h1 m r x), fun m r s h x => k.rt m r s h (h2 m r x), fun m r s h x => k.bk m r s h (h3 m r x), fun m r s h x => k.ct m r s h (h4 m r x)⟩
theorem gs_seq (h : GS K W X μ ρ t { E with nx := fun μ1 ρ1 => GS K W X μ1 ρ1 u E }) : GS K W X μ ρ (tSeq t u) E := fun σ H D m e l k =>
  h σ H { D with nx := u D } m e l ⟨fun m' r s h x gr mm ee => x s h D mm ee (l.grow gr) (k.grow gr), k.rt, k.bk, k.ct⟩
theorem gs_next (h : E.nx μ ρ) : GS K W X μ ρ tNext E := fun σ H D m e _ k => k.nx μ ρ σ H h (Grow.refl _ _) m e
theorem gs_break (h : E.bk μ ρ) : GS K W X μ ρ tBreak E := fun σ H D m e _ k => k.bk μ ρ σ H h (Grow.refl _ _) m e
theorem gs_cont (h : E.ct μ ρ) : GS K W X μ ρ tCont E := fun σ H D m e _ k => k.ct μ ρ σ H h (Grow.refl _ _) m e
theorem gs_ret (h : EvX K W X μ ρ te E.rt) : GS K W X μ ρ (tRet te) E := fun σ H D m e l k => h σ H _ m e l fun μ' d v H' p g mm dd => k.rt μ' d v H' p g mm dd
theorem gs_retN (h : E.rt μ .non) : GS K W X μ ρ tRetN E := fun σ H D m e l k => k.rt μ .non .non H h (Grow.refl _ _) m (by unfold Den; rfl)
theorem gs_drop (h : EvX K W X μ ρ te fun μ1 _ => E.nx μ1 ρ) : GS K W X μ ρ (tDrop te) E := fun σ H D m e l k => h σ H _ m e l fun μ' d v H' p g mm dd => k.nx μ' ρ σ H' p g mm (e.grow g)
theorem gs_if (h : EvB K W X μ ρ tt fun μ1 b => if b = true then GS K W X μ1 ρ t E else GS K W X μ1 ρ u E) : GS K W X μ ρ (tIfS tt t u) E := fun σ H D m e l k =>
  h σ H _ m e l fun μ1 b H1 h1 g1 m1 => by
    cases b with
    | true => rw [if_pos rfl] at h1 ⊢; exact h1 σ H1 D m1 (e.grow g1) (l.grow g1) (k.grow g1)
    | false => rw [if_neg (by decide)] at h1 ⊢; exact h1 σ H1 D m1 (e.grow g1) (l.grow g1) (k.grow g1)
theorem gs_asg (h : EvX K W X μ ρ te fun μ1 d => TgX K W X μ1 ρ g d E.nx) : GS K W X μ ρ (tAsg te g) E := fun σ H D m e l k =>
  h σ H _ m e l fun μ1 d v H1 h1 g1 m1 d1 => h1 σ H1 v _ m1 (e.grow g1) (l.grow g1) d1 fun μ' ρ' σ' H' p g' mm ee => k.nx μ' ρ' σ' H' p (g1.trans g') mm ee
theorem tgx_name {i : Nat} {d : D} {Φ : Mu → Ro → Prop} (h : Φ μ (ρ.set i (some d))) : TgX K W X μ ρ (gName i) d Φ := fun σ H v Q m e _ dd k => k μ _ _ H h (Grow.refl _ _) m (e.set dd i)
theorem tgsx_nil {Φ : Mu → Ro → Prop} (h : Φ μ ρ) : TgsX K W X μ ρ gNil [] Φ := fun σ H vs Q m e _ dd k => ⟨by unfold DenL at dd; exact dd, k μ ρ σ H h (Grow.refl _ _) m e⟩
theorem tgsx_cons {gs : TGs} {d : D} {ds : List D} {Φ : Mu → Ro → Prop} (h : TgX K W X μ ρ g d fun μ1 ρ1 => TgsX K W X μ1 ρ1 gs ds Φ) : TgsX K W X μ ρ (gCons g gs) (d :: ds) Φ := fun σ H vs Q m e l dd k => by
  unfold DenL at dd
  obtain ⟨w, ws, e1, a, b⟩ := dd
  exact ⟨w, ws, e1, h σ H w _ m e l a fun μ1 ρ1 σ1 H1 h1 g1 m1 ee1 => h1 σ1 H1 ws Q m1 ee1 (l.grow g1) (DenL.grow g1 _ _ b) fun μ' ρ' σ' H' p g => k μ' ρ' σ' H' p (g1.trans g)⟩
theorem tgx_tup {gs : TGs} {n : Nat} {ds : List D} {Φ : Mu → Ro → Prop} (hn : ds.length = n) (h : TgsX K W X μ ρ gs ds Φ) : TgX K W X μ ρ (gTup K n gs) (.tup ds) Φ := fun σ H v Q m e l dd k => by
  unfold Den at dd
  obtain ⟨p, vs, e1, s, b⟩ := dd
  exact ⟨p, vs, e1, s.sq, by rw [← b.length, hn], h σ H vs Q m e l b k⟩
/-- a, b = e1, e2 -/
theorem gs_par {i j : Nat} {ta : TA} (h : EvL K W X μ ρ ta fun μ1 ds => ∃ d d', ds = [d, d'] ∧ E.nx μ1 ((ρ.set i (some d)).set j (some d'))) : GS K W X μ ρ (tPar i j ta) E := fun σ H D m e l k =>
  h σ H _ m e l fun μ1 ds vs H1 ⟨d, d', e1, h1⟩ g1 m1 d1 => by
    subst e1
    unfold DenL at d1
    obtain ⟨w, ws, e2, a, b⟩ := d1
    unfold DenL at b
    obtain ⟨w', ws', e3, a', b'⟩ := b
    unfold DenL at b'
    subst b' e3 e2
    exact ⟨w, w', rfl, k.nx μ1 _ _ H1 h1 g1 m1 (((e.grow g1).set a i).set a' j)⟩
/-- x op= e -/
def IpX (K : PySem.W.Frag) (r : V → V → Hp → VK → Prop) := OpX K r
theorem gs_aug {i : Nat} {x : D} {ti : TIp} (hx : ρ[i]? = some (some x)) (h : EvX K W X μ ρ te fun μ1 y => OpX K ti μ1 x y fun μ2 z => E.nx μ2 (ρ.set i (some z))) : GS K W X μ ρ (tAug i te ti) E := fun σ H D m e l k => by
  obtain ⟨v, h1, h2⟩ := e.2 i x hx
  exact ⟨v, h1, h σ H _ m e l fun μ1 y w H1 q1 g1 m1 d1 => q1 H1 v w _ m1 (Den.grow g1 _ _ h2) d1 fun μ' d u H' p g mm dd => k.nx μ' _ _ H' p (g1.trans g) mm (((e.grow g1).grow g).set dd i)⟩
/-- a wider store may be forgotten -/
theorem gs_cut {p : Addr} (h : GS K W X (mcut μ p) ρ t E) : GS K W X μ ρ t E := fun σ H D m e l k => h σ H D m.cut (e.less Less.cut) (l.grow Grow.cut) (k.grow Grow.cut)
/-- a list that changed till now and will change no more -/
theorem gs_freeze {ρ' : Ro} {p : Addr} {ds : List D} {i : Nat} (hp : μ p = some (.lst ds)) (hi : ρ[i]? = some (some (.at p))) (he : ρ' = ρ.set i (some (.lst ds))) (h : GS K W X (mcut μ p) ρ' t E) : GS K W X μ ρ t E := fun σ H D m e l k => by
  obtain ⟨vs, h1, h2⟩ := m p _ hp
  obtain ⟨v, q1, q2⟩ := e.2 i _ hi
  unfold Den at q2
  subst q2
  have e' : EnvIs K (mcut μ p) H ρ' σ := by
    have q := (e.less (Less.cut (a := p))).set (d := .lst ds) (v := .ref p) (by unfold Den; exact ⟨p, vs, rfl, ⟨mcut_same, h1⟩, DenL.less Less.cut _ _ h2⟩) i
    rw [← he] at q
    have : σ.set i (some (.ref p)) = σ := by
      apply List.ext_getElem?
      intro j
      by_cases hj : i = j
      · subst hj
        rw [List.getElem?_set_self (List.getElem?_eq_some_iff.mp q1).1, q1]
      · rw [List.getElem?_set_ne hj]
    rw [this] at q
    exact q
  exact h σ H D m.cut e' (l.grow Grow.cut) (k.grow Grow.cut)
end
/-- what a loop walks, over data: ds, while S holds of the store -/
structure ItOk (K : PySem.W.Frag) (μ : Mu) (H : Hp) (J : It) (ds : List D) (S : Mu → Prop) : Prop where
  w : ∃ (G : Hp → Prop) (Y : Nat → Hp → V → Hp → Prop), Walk J ds.length G Y ∧ (∀ μ' H', Grow μ H μ' H' → Mem K μ' H' → S μ' → G H') ∧
    ∀ i μ' H' x H'' d, Grow μ H μ' H' → Mem K μ' H' → S μ' → Y i H' x H'' → ds[i]? = some d → Grow μ' H' μ' H'' ∧ Mem K μ' H'' ∧ Den K μ' H'' d x
def ItX (K : PySem.W.Frag) (W : WX) (X : XD) (μ : Mu) (ρ : Ro) (wi : TI) (Ψ : Mu → List D → (Mu → Prop) → Prop) : Prop := ∀ (σ : L2.St) (H : Hp) (R : It → Hp → Prop), Mem K μ H → EnvIs K μ H ρ σ → LiftX K μ H X W →
  (∀ μ1 ds S J H1, Ψ μ1 ds S → Grow μ H μ1 H1 → Mem K μ1 H1 → ItOk K μ1 H1 J ds S → R J H1) → wi σ H R
/-- a list to be read -/
def IsL (μ : Mu) (d : D) (ds : List D) (S : Mu → Prop) : Prop := ((d = .lst ds ∨ d = .frz ds) ∧ S = fun _ => True) ∨ ∃ a, d = .at a ∧ μ a = some (.lst ds) ∧ S = fun μ' => μ' a = some (.lst ds)

section
variable {K : PySem.W.Frag} {W : WX} {X : XD} {μ μ' : Mu} {H H' : Hp} {ρ : Ro} {E : ED} {ta tb te tx tl : TE} {tt tu : TT} {Φ : DP} {Ψ : Mu → List D → (Mu → Prop) → Prop} {g : TG} {t : TS} {wi : TI}
theorem gs_for (h : ItX K W X μ ρ wi fun μ1 ds S => ∃ Inv : Nat → Mu → Ro → Prop, Inv 0 μ1 ρ ∧ (∀ i μ' ρ', i ≤ ds.length → Inv i μ' ρ' → S μ') ∧
    (∀ i d μ' ρ', ds[i]? = some d → Inv i μ' ρ' → TgX K W X μ' ρ' g d fun μ'' ρ'' => GS K W X μ'' ρ'' t { E with nx := Inv (i + 1), ct := Inv (i + 1), bk := E.nx }) ∧ ∀ μ' ρ', Inv ds.length μ' ρ' → E.nx μ' ρ') :
    GS K W X μ ρ (tFor wi g t) E := fun σ H D m e l k => by
  refine h σ H _ m e l fun μ1 ds S J H1 ⟨Iv, h0, hS, hs, hd⟩ g1 m1 ok => ?_
  obtain ⟨G, Y, w, hG, hY⟩ := ok.w
  refine for_it w (fun i σ' H' => ∃ μ' ρ', Iv i μ' ρ' ∧ Grow μ1 H1 μ' H' ∧ Mem K μ' H' ∧ EnvIs K μ' H' ρ' σ') ⟨μ1, ρ, h0, Grow.refl _ _, m1, e.grow g1⟩ ?_ ?_ ?_
  · rintro i σ' H' hi ⟨μ', ρ', p, gr, mm, ee⟩
    exact hG μ' H' gr mm (hS i μ' ρ' hi p)
  · rintro i x σ' H' H'' hi ⟨μ', ρ', p, gr, mm, ee⟩ y
    obtain ⟨q1, q2, q3⟩ := hY i μ' H' x H'' ds[i] gr mm (hS i μ' ρ' (Nat.le_of_lt hi) p) y (by simp)
    have gg := (g1.trans gr).trans q1
    refine hs i ds[i] μ' ρ' (by simp) p σ' H'' x _ q2 (ee.grow q1) (l.grow gg) q3 fun μ2 ρ2 σ2 H2 p2 g2 m2 e2 => ?_
    refine p2 σ2 H2 _ m2 e2 (l.grow (gg.trans g2)) ⟨fun m r s h x gr' mm' ee' => ?_, fun m r s h x gr' mm' ee' => k.rt m r s h x ((gg.trans g2).trans gr') mm' ee', fun m r s h x gr' mm' ee' => k.nx m r s h x ((gg.trans g2).trans gr') mm' ee', fun m r s h x gr' mm' ee' => ?_⟩
    · exact ⟨m, r, x, ((gr.trans q1).trans g2).trans gr', mm', ee'⟩
    · exact ⟨m, r, x, ((gr.trans q1).trans g2).trans gr', mm', ee'⟩
  · rintro σ' H' ⟨μ', ρ', p, gr, mm, ee⟩
    exact k.nx μ' ρ' σ' H' (hd μ' ρ' p) (g1.trans gr) mm ee
theorem den_seq {d : D} {ds : List D} {S : Mu → Prop} {v : V} (hd : IsL μ d ds S) (m : Mem K μ H) (h : Den K μ H d v) : ∃ p vs, v = .ref p ∧ SqL K H p vs ∧ DenL K μ H ds vs := by
  rcases hd with ⟨e | e, _⟩ | ⟨a, e, ha, _⟩
  · subst e; unfold Den at h
    obtain ⟨p, vs, e1, s, b⟩ := h
    exact ⟨p, vs, e1, SqL.of s.2, b⟩
  · subst e; unfold Den at h
    obtain ⟨p, vs, e1, s, b⟩ := h
    exact ⟨p, vs, e1, s.sq, b⟩
  · subst e; unfold Den at h
    obtain ⟨vs, e1, b⟩ := m a _ ha
    exact ⟨a, vs, h, SqL.of e1, b⟩
theorem itx_list (h : EvX K W X μ ρ tl fun μ1 d => ∃ ds S, IsL μ1 d ds S ∧ Ψ μ1 ds S) : ItX K W X μ ρ (iList K tl) Ψ := fun σ H R m e l k =>
  h σ H _ m e l fun μ1 d v H1 ⟨ds, S, hd, hp⟩ g1 m1 d1 => by
    rcases hd with ⟨e1, hS⟩ | ⟨a, e1, ha, hS⟩
    · obtain ⟨p, vs, e2, s, b⟩ : ∃ p vs, v = .ref p ∧ StS K μ1 H1 p vs ∧ DenL K μ1 H1 ds vs := by
        rcases e1 with e1 | e1
        · subst e1; unfold Den at d1
          obtain ⟨p, vs, e2, s, b⟩ := d1
          exact ⟨p, vs, e2, .inl ⟨s.1, .inl s.2⟩, b⟩
        · subst e1; unfold Den at d1; exact d1
      refine ⟨p, e2, ⟨vs, s.sq⟩, k μ1 ds S _ H1 hp g1 m1 ⟨(fun H => SqL K H p vs), YAt vs, by rw [b.length]; exact walk_list, fun μ' H' gr mm _ => (gr.stS s).sq, ?_⟩⟩
      rintro i μ' H' x H'' d gr mm _ ⟨rfl, hx⟩ hd
      obtain ⟨v', q1, q2⟩ := (DenL.grow gr _ _ b).get hd
      rw [hx] at q1; cases q1
      exact ⟨Grow.refl _ _, mm, q2⟩
    · subst e1 hS
      unfold Den at d1
      obtain ⟨vs, e2, b⟩ := m1 a _ ha
      refine ⟨a, d1, ⟨vs, SqL.of e2⟩, k μ1 ds _ _ H1 hp g1 m1 ⟨(fun H => ∃ vs, H a = some (.lst vs) ∧ vs.length = ds.length), (fun i H x H' => H' = H ∧ ∀ vs, H a = some (.lst vs) → vs[i]? = some x), ?_, ?_, ?_⟩⟩
      · refine ⟨?_, ?_, ?_⟩
        · rintro i H hi ⟨vs, q, ln⟩
          exact ⟨vs, vs[i], SqL.of q, by simp⟩
        · rintro H ⟨vs, q, ln⟩
          exact ⟨vs, SqL.of q, by omega⟩
        · rintro i H x H' hi ⟨vs, q, ln⟩ ⟨rfl, y⟩
          exact ⟨rfl, fun vs' q' => y vs' (SqL.of q')⟩
      · intro μ' H' gr mm ha'
        obtain ⟨vs', q, b'⟩ := mm a _ ha'
        exact ⟨vs', q, b'.length.symm⟩
      · rintro i μ' H' x H'' d gr mm ha' ⟨rfl, y⟩ hd
        obtain ⟨vs', q, b'⟩ := mm a _ ha'
        obtain ⟨v', q1, q2⟩ := b'.get hd
        rw [y vs' q] at q1; cases q1
        exact ⟨Grow.refl _ _, mm, q2⟩
theorem itx_tup (h : EvX K W X μ ρ tl fun μ1 d => ∃ ds, d = .tup ds ∧ Ψ μ1 ds fun _ => True) : ItX K W X μ ρ (iTup K tl) Ψ := fun σ H R m e l k =>
  h σ H _ m e l fun μ1 d v H1 ⟨ds, hd, hp⟩ g1 m1 d1 => by
    subst hd; unfold Den at d1
    obtain ⟨p, vs, e2, s, b⟩ := d1
    refine ⟨p, e2, ⟨vs, s.sq⟩, k μ1 ds _ _ H1 hp g1 m1 ⟨(fun H => SqT K H p vs), YAt vs, by rw [b.length]; exact walk_tup, fun μ' H' gr mm _ => (gr.stT s).sq, ?_⟩⟩
    rintro i μ' H' x H'' d gr mm _ ⟨rfl, hx⟩ hd
    obtain ⟨v', q1, q2⟩ := (DenL.grow gr _ _ b).get hd
    rw [hx] at q1; cases q1
    exact ⟨Grow.refl _ _, mm, q2⟩
/-- the turns of a range -/
def rangeD (lo : Int) (n : Nat) : List D := (List.range n).map fun (i : Nat) => .int (lo + i)
theorem rangeD_len (lo : Int) (n : Nat) : (rangeD lo n).length = n := by unfold rangeD; simp
theorem rangeD_get {lo : Int} {n i : Nat} {d : D} (h : (rangeD lo n)[i]? = some d) : i < n ∧ d = .int (lo + i) := by
  unfold rangeD at h
  rw [List.getElem?_map] at h
  by_cases hi : i < n
  · rw [List.getElem?_range hi] at h
    exact ⟨hi, by simpa using h.symm⟩
  · rw [List.getElem?_eq_none (by simpa using hi)] at h
    cases h
theorem itok_range {lo : Int} {n : Nat} : ItOk K μ H (Itr lo n) (rangeD lo n) fun _ => True :=
  ⟨(fun _ => True), YFn fun i => .int (lo + i), by rw [rangeD_len]; exact walk_range, fun _ _ _ _ _ => True.intro, fun i μ' H' x H'' d gr mm _ y hd => by
    obtain ⟨rfl, rfl⟩ := y
    obtain ⟨_, rfl⟩ := rangeD_get hd
    exact ⟨Grow.refl _ _, mm, by unfold Den; rfl⟩⟩
theorem itx_range1 {tr : TA} (h : EvL K W X μ ρ tr fun μ1 ds => ∃ n : Int, ds = [.int n] ∧ (-(2 ^ 62) ≤ n ∧ n < 2 ^ 62) ∧ Ψ μ1 (rangeD 0 n.toNat) fun _ => True) : ItX K W X μ ρ (iRng1 tr) Ψ := fun σ H R m e l k =>
  h σ H _ m e l fun μ1 ds vs H1 ⟨n, hd, hb, hp⟩ g1 m1 d1 => by
    subst hd
    unfold DenL at d1
    obtain ⟨w, ws, e2, a, b⟩ := d1
    unfold Den at a
    unfold DenL at b
    subst e2 a b
    exact ⟨n, rfl, hb.1, hb.2, k μ1 _ _ _ H1 hp g1 m1 itok_range⟩
theorem itx_range2 {tr : TA} (h : EvL K W X μ ρ tr fun μ1 ds => ∃ i n : Int, ds = [.int i, .int n] ∧ (-(2 ^ 62) ≤ i ∧ i < 2 ^ 62 ∧ -(2 ^ 62) ≤ n ∧ n < 2 ^ 62) ∧ Ψ μ1 (rangeD i (n - i).toNat) fun _ => True) : ItX K W X μ ρ (iRng2 tr) Ψ := fun σ H R m e l k =>
  h σ H _ m e l fun μ1 ds vs H1 ⟨i, n, hd, hb, hp⟩ g1 m1 d1 => by
    subst hd
    unfold DenL at d1
    obtain ⟨w, ws, e2, a, b⟩ := d1
    unfold Den at a
    unfold DenL at b
    obtain ⟨w', ws', e3, a', b'⟩ := b
    unfold Den at a'
    unfold DenL at b'
    subst e3 a' b' e2 a
    exact ⟨i, n, rfl, hb, k μ1 _ _ _ H1 hp g1 m1 itok_range⟩
/-- the signs of a text -/
def signsD (z : Str) : List D := z.cps.toList.map fun c => .str ⟨#[c]⟩
theorem itx_str (h : EvX K W X μ ρ te fun μ1 d => ∃ z, d = .str z ∧ Ψ μ1 (signsD z) fun _ => True) : ItX K W X μ ρ (iStr te) Ψ := fun σ H R m e l k =>
  h σ H _ m e l fun μ1 d v H1 ⟨z, hd, hp⟩ g1 m1 d1 => by
    subst hd; unfold Den at d1
    refine ⟨z, d1, k μ1 _ _ _ H1 hp g1 m1 ⟨_, _, by unfold signsD; rw [List.length_map, Array.length_toList]; exact walk_str, fun _ _ _ _ _ => True.intro, ?_⟩⟩
    rintro i μ' H' x H'' d gr mm _ ⟨rfl, c, hc, rfl⟩ hd
    refine ⟨Grow.refl _ _, mm, ?_⟩
    unfold signsD at hd
    rw [List.getElem?_map, Array.getElem?_toList, hc] at hd
    cases hd
    unfold Den
    rfl
/-- pairs -/
def pairsD (xs ys : List D) : List D := (xs.zip ys).map fun p => .tup [p.1, p.2]
theorem den_pair {x y : D} {v w : V} {T : Addr} (m : Mem K μ H) (hT : H T = none) (a : Den K μ H x v) (b : Den K μ H y w) : Den K μ (upd H T (.tup [v, w])) (.tup [x, y]) (.ref T) := by
  unfold Den
  exact ⟨T, [v, w], rfl, .inl ⟨m.free hT, .inl upd_same⟩, DenL.cons (Den.grow (Grow.new hT) _ _ a) (DenL.cons (Den.grow (Grow.new hT) _ _ b) DenL.nil)⟩
/-- the i-th and the i-th: a new pair -/
theorem itok_pair {J : It} {n : Nat} {ds : List D} {S : Mu → Prop} {xs ys : Hp → Nat → Option V} {G : Hp → Prop} {Y : Nat → Hp → V → Hp → Prop} (w : Walk J ds.length G Y) (hG : ∀ μ' H', Grow μ H μ' H' → Mem K μ' H' → S μ' → G H')
    (hY : ∀ i μ' H' v H'' d, Grow μ H μ' H' → Mem K μ' H' → S μ' → Y i H' v H'' → ds[i]? = some d → ∃ T x y v1 v2, v = .ref T ∧ H' T = none ∧ H'' = upd H' T (.tup [v1, v2]) ∧ d = .tup [x, y] ∧ Den K μ' H' x v1 ∧ Den K μ' H' y v2) : ItOk K μ H J ds S :=
  ⟨G, Y, w, hG, fun i μ' H' v H'' d gr mm s y hd => by
    obtain ⟨T, x, y', v1, v2, rfl, hT, rfl, rfl, a, b⟩ := hY i μ' H' v H'' d gr mm s y hd
    exact ⟨Grow.new hT, mm.new hT, den_pair mm hT a b⟩⟩
theorem pairsD_get {xs ys : List D} {i : Nat} {d : D} (h : (pairsD xs ys)[i]? = some d) : ∃ x y, xs[i]? = some x ∧ ys[i]? = some y ∧ d = .tup [x, y] := by
  unfold pairsD at h
  rw [List.getElem?_map] at h
  cases e : (xs.zip ys)[i]? with
  | none => rw [e] at h; cases h
  | some p =>
    rw [e] at h
    cases h
    rw [List.getElem?_zip_eq_some] at e
    exact ⟨p.1, p.2, e.1, e.2, rfl⟩
theorem pairsD_len (xs ys : List D) : (pairsD xs ys).length = min xs.length ys.length := by unfold pairsD; simp
/-- zip of two lists, two tuples -/
theorem itx_zip {tr : TA} (h : EvL K W X μ ρ tr fun μ1 ds => ∃ a b xs ys, ds = [a, b] ∧ ((∃ S S', IsL μ1 a xs S ∧ IsL μ1 b ys S' ∧ (∀ m, S m) ∧ (∀ m, S' m)) ∨ (a = .tup xs ∧ b = .tup ys)) ∧ Ψ μ1 (pairsD xs ys) fun _ => True) : ItX K W X μ ρ (iZipA K tr) Ψ := fun σ H R m e l k =>
  h σ H _ m e l fun μ1 ds vs H1 ⟨a, b, xs, ys, hd, hab, hp⟩ g1 m1 d1 => by
    subst hd
    unfold DenL at d1
    obtain ⟨v1, ws, e2, da, b'⟩ := d1
    unfold DenL at b'
    obtain ⟨v2, ws', e3, db, b''⟩ := b'
    unfold DenL at b''
    subst b'' e3 e2
    rcases hab with ⟨S, S', ha, hb, s1, s2⟩ | ⟨rfl, rfl⟩
    · have key : ∀ {d : D} {v : V} {zs : List D} {S : Mu → Prop}, IsL μ1 d zs S → (∀ m, S m) → Den K μ1 H1 d v → ∃ p vs, v = .ref p ∧ StS K μ1 H1 p vs ∧ DenL K μ1 H1 zs vs := by
        intro d v zs S hd hs dv
        rcases hd with ⟨e1 | e1, _⟩ | ⟨a, _, _, hS⟩
        · subst e1; unfold Den at dv
          obtain ⟨p, vs, e2, s, b⟩ := dv
          exact ⟨p, vs, e2, .inl ⟨s.1, .inl s.2⟩, b⟩
        · subst e1; unfold Den at dv; exact dv
        · subst hS
          have := hs (fun _ => none)
          cases this
      obtain ⟨p, us, e1, sp, bp⟩ := key ha s1 da
      obtain ⟨q, ws, e2, sq, bq⟩ := key hb s2 db
      subst e1 e2
      refine ⟨p, q, us, ws, rfl, .inl ⟨sp.sq, sq.sq, k μ1 _ _ _ H1 hp g1 m1 (itok_pair (n := 0) (xs := fun _ _ => none) (ys := fun _ _ => none) (walk_zip (xs := us) (ys := ws) (by rw [pairsD_len, bp.length, bq.length])) (fun μ' H' gr mm _ => ⟨(gr.stS sp).sq, (gr.stS sq).sq⟩) ?_)⟩⟩
      rintro i μ' H' v H'' d gr mm _ ⟨T, x, y, rfl, hT, rfl, hx, hy⟩ hd
      obtain ⟨dx, dy, ex, ey, rfl⟩ := pairsD_get hd
      obtain ⟨u1, q1, r1⟩ := (DenL.grow gr _ _ bp).get ex
      obtain ⟨u2, q2, r2⟩ := (DenL.grow gr _ _ bq).get ey
      have hx' : us[i]? = some x := hx
      have hy' : ws[i]? = some y := hy
      rw [hx'] at q1; cases q1
      rw [hy'] at q2; cases q2
      exact ⟨T, dx, dy, x, y, rfl, hT, rfl, rfl, r1, r2⟩
    · unfold Den at da db
      obtain ⟨p, us, e1, sp, bp⟩ := da
      obtain ⟨q, ws, e2, sq, bq⟩ := db
      subst e1 e2
      refine ⟨p, q, us, ws, rfl, .inr ⟨sp.sq, sq.sq, k μ1 _ _ _ H1 hp g1 m1 (itok_pair (n := 0) (xs := fun _ _ => none) (ys := fun _ _ => none) (G := fun H => SqT K H p us ∧ SqT K H q ws) (Y := YPair (fun i => us[i]?) (fun i => ws[i]?)) ?_ (fun μ' H' gr mm _ => ⟨(gr.stT sp).sq, (gr.stT sq).sq⟩) ?_)⟩⟩
      · refine ⟨?_, ?_, ?_⟩
        · rintro i H hi ⟨h1, h2⟩
          rw [pairsD_len, bp.length, bq.length] at hi
          exact ⟨us, ws, us[i], ws[i], h1, h2, by simp, by simp⟩
        · rintro H ⟨h1, h2⟩
          refine ⟨us, ws, h1, h2, ?_⟩
          rw [pairsD_len, bp.length, bq.length]
          omega
        · rintro i H x H' hi ⟨h1, h2⟩ y
          obtain ⟨T, a, b, h3, h4, h5, h6⟩ := y
          exact ⟨T, a, b, h3, h4, h5, h6.1 us h1, h6.2 ws h2⟩
      · rintro i μ' H' v H'' d gr mm _ ⟨T, x, y, rfl, hT, rfl, hx, hy⟩ hd
        obtain ⟨dx, dy, ex, ey, rfl⟩ := pairsD_get hd
        obtain ⟨u1, q1, r1⟩ := (DenL.grow gr _ _ bp).get ex
        obtain ⟨u2, q2, r2⟩ := (DenL.grow gr _ _ bq).get ey
        have hx' : us[i]? = some x := hx
        have hy' : ws[i]? = some y := hy
        rw [hx'] at q1; cases q1
        rw [hy'] at q2; cases q2
        exact ⟨T, dx, dy, x, y, rfl, hT, rfl, rfl, r1, r2⟩
/-! ### comprehensions -/
theorem wipe_env {vs : List Nat} {σ : L2.St} (e : EnvIs K μ H ρ σ) : EnvIs K μ H (vs.foldr (fun v r => r.set v none) ρ) (wipe σ vs) := by
  induction vs with
  | nil => exact e
  | cons v vs ih => exact ih.unset v
theorem wipe_get (σ : L2.St) : ∀ (vs : List Nat) (i : Nat), (wipe σ vs)[i]? = if i ∈ vs then (σ[i]?).map (fun _ => none) else σ[i]?
  | [], i => by rw [if_neg (by simp)]; rfl
  | v :: vs, i => by
    show ((wipe σ vs).set v none)[i]? = _
    by_cases h : v = i
    · subst h
      rw [if_pos (by simp)]
      by_cases hl : v < σ.length
      · rw [List.getElem?_set_self (by rw [wipe_length]; exact hl), List.getElem?_eq_getElem hl]; rfl
      · rw [List.getElem?_eq_none (by rw [List.length_set, wipe_length]; omega), List.getElem?_eq_none (by omega)]; rfl
    · rw [List.getElem?_set_ne h, wipe_get σ vs i]
      have : (i ∈ v :: vs) ↔ i ∈ vs := by
        rw [List.mem_cons]
        exact ⟨fun q => q.resolve_left (fun z => h z.symm), .inr⟩
      by_cases hm : i ∈ vs
      · rw [if_pos hm, if_pos (this.mpr hm)]
      · rw [if_neg hm, if_neg (fun z => hm (this.mp z))]
theorem wipe_set {σ : L2.St} {vs : List Nat} {j : Nat} {x : Option V} (h : j ∈ vs) : wipe (σ.set j x) vs = wipe σ vs := by
  apply List.ext_getElem?
  intro i
  rw [wipe_get, wipe_get]
  by_cases hi : i ∈ vs
  · rw [if_pos hi, if_pos hi]
    by_cases e : j = i
    · subst e
      by_cases hl : j < σ.length
      · rw [List.getElem?_set_self hl, List.getElem?_eq_getElem hl]; rfl
      · rw [List.getElem?_eq_none (by rw [List.length_set]; omega), List.getElem?_eq_none (by omega)]
    · rw [List.getElem?_set_ne e]
  · rw [if_neg hi, if_neg hi, List.getElem?_set_ne (fun z => hi (by rw [← z]; exact h))]
theorem wipe_wipe {σ : L2.St} {vs : List Nat} : wipe (wipe σ vs) vs = wipe σ vs := by
  apply List.ext_getElem?
  intro i
  rw [wipe_get, wipe_get]
  by_cases hi : i ∈ vs
  · rw [if_pos hi, if_pos hi]
    cases σ[i]? <;> rfl
  · rw [if_neg hi, if_neg hi]
/-- the slots ahead of a comprehension's turn -/
abbrev wipeD (ρ : Ro) (vs : List Nat) : Ro := vs.foldr (fun v r => r.set v none) ρ
/-- a comprehension's target: its names are among vs -/
def TcX (K : PySem.W.Frag) (W : WX) (X : XD) (vs : List Nat) (μ : Mu) (ρ : Ro) (g : TG) (d : D) (Φ : Mu → Ro → Prop) : Prop := ∀ (σ : L2.St) (H : Hp) (v : V) (Q : L2.St → Hp → Prop), Mem K μ H → EnvIs K μ H ρ σ → Den K μ H d v →
  (∀ ρ' σ', Φ μ ρ' → EnvIs K μ H ρ' σ' → wipe σ' vs = wipe σ vs → Q σ' H) → g v σ H Q
theorem tcx_name {vs : List Nat} {j : Nat} {d : D} {Φ : Mu → Ro → Prop} (hj : j ∈ vs) (h : Φ μ (ρ.set j (some d))) : TcX K W X vs μ ρ (gName j) d Φ := fun σ H v Q m e dd k => k _ _ h (e.set dd j) (wipe_set hj)
theorem tcx_tup2 {vs : List Nat} {i j : Nat} {d d' : D} {Φ : Mu → Ro → Prop} (hi : i ∈ vs) (hj : j ∈ vs) (h : Φ μ ((ρ.set i (some d)).set j (some d'))) : TcX K W X vs μ ρ (gTup K 2 (gCons (gName i) (gCons (gName j) gNil))) (.tup [d, d']) Φ := fun σ H v Q m e dd k => by
  unfold Den at dd
  obtain ⟨p, us, e1, s, b⟩ := dd
  unfold DenL at b
  obtain ⟨w, ws, e2, a, b⟩ := b
  unfold DenL at b
  obtain ⟨w', ws', e3, a', b'⟩ := b
  unfold DenL at b'
  subst b' e3 e2
  exact ⟨p, _, e1, s.sq, rfl, w, _, rfl, w', _, rfl, rfl, k _ _ h ((e.set a i).set a' j) (by rw [wipe_set hj, wipe_set hi])⟩
theorem tcx_tup4 {vs : List Nat} {i1 i2 i3 i4 : Nat} {d1 d2 d3 d4 : D} {Φ : Mu → Ro → Prop} (h1 : i1 ∈ vs) (h2 : i2 ∈ vs) (h3 : i3 ∈ vs) (h4 : i4 ∈ vs) (h : Φ μ ((((ρ.set i1 (some d1)).set i2 (some d2)).set i3 (some d3)).set i4 (some d4))) :
    TcX K W X vs μ ρ (gTup K 4 (gCons (gName i1) (gCons (gName i2) (gCons (gName i3) (gCons (gName i4) gNil))))) (.tup [d1, d2, d3, d4]) Φ := fun σ H v Q m e dd k => by
  unfold Den at dd
  obtain ⟨p, us, e1, s, b⟩ := dd
  unfold DenL at b
  obtain ⟨w1, ws1, q1, a1, b⟩ := b
  unfold DenL at b
  obtain ⟨w2, ws2, q2, a2, b⟩ := b
  unfold DenL at b
  obtain ⟨w3, ws3, q3, a3, b⟩ := b
  unfold DenL at b
  obtain ⟨w4, ws4, q4, a4, b⟩ := b
  unfold DenL at b
  subst b q4 q3 q2 q1
  exact ⟨p, _, e1, s.sq, rfl, _, _, rfl, _, _, rfl, _, _, rfl, _, _, rfl, rfl, k _ _ h ((((e.set a1 i1).set a2 i2).set a3 i3).set a4 i4) (by rw [wipe_set h4, wipe_set h3, wipe_set h2, wipe_set h1])⟩
/-- a comprehension: Iv by the turn, the store (the new list in it) and the list so far; at the end it may change no more, or it may -/
theorem evx_lc {vs : List Nat} (h : ItX K W X μ ρ wi fun μ1 ds S => ∀ Dl, μ1 Dl = none → ∃ Iv : Nat → Mu → List D → Prop, Iv 0 (mput μ1 Dl (.lst [])) [] ∧
    (∀ i μ' acc, i ≤ ds.length → μ' Dl = some (.lst acc) → Iv i μ' acc → acc.length ≤ 1000000 ∧ S μ') ∧
    (∀ i d μ' acc, ds[i]? = some d → μ' Dl = some (.lst acc) → Iv i μ' acc → TcX K W X vs μ' (wipeD ρ vs) g d fun μ2 ρ2 =>
      EvB K W X μ2 ρ2 tt fun μ3 b => μ3 Dl = some (.lst acc) ∧ if b = true then EvX K W X μ3 ρ2 te fun μ4 y => μ4 Dl = some (.lst acc) ∧ Iv (i + 1) (mput μ4 Dl (.lst (acc ++ [y]))) (acc ++ [y]) else Iv (i + 1) μ3 acc) ∧
    (∀ μ' acc, μ' Dl = some (.lst acc) → Iv ds.length μ' acc → Φ (mcut μ' Dl) (.lst acc) ∨ Φ μ' (.at Dl))) : EvX K W X μ ρ (tLc wi g tt te vs) Φ := fun σ H Q m e l k => by
  refine h σ H _ m e l fun μ1 ds S J H1 hp g1 m1 ok Dl hD => ?_
  obtain ⟨Iv, h0, hS, hs, hd⟩ := hp Dl (m1.free hD)
  obtain ⟨G, Y, w, hG, hY⟩ := ok.w
  have gn : Grow μ1 H1 (mput μ1 Dl (.lst [])) (upd H1 Dl (.lst [])) := Grow.newM hD
  have e1 := wipe_env (vs := vs) (e.grow g1)
  refine lc_it w (fun i H' => ∃ μ' acc, Iv i μ' acc ∧ μ' Dl = some (.lst acc) ∧ Grow μ1 H1 μ' H' ∧ Mem K μ' H') ⟨_, [], h0, mput_same, gn, m1.newM hD ⟨[], upd_same, DenL.nil⟩⟩ ?_ ?_ ?_
  · rintro i H' hi ⟨μ', acc, p, hl, gr, mm⟩
    exact hG μ' H' gr mm (hS i μ' acc hi hl p).2
  · rintro i x H' H'' hi ⟨μ', acc, p, hl, gr, mm⟩ y
    have hz := hS i μ' acc (Nat.le_of_lt hi) hl p
    obtain ⟨q1, q2, q3⟩ := hY i μ' H' x H'' ds[i] gr mm hz.2 y (by simp)
    have gg := gr.trans q1
    refine hs i ds[i] μ' acc (by simp) hl p (wipe σ vs) H'' x _ q2 (e1.grow gg) q3 fun ρ2 σ2 p2 e2 hw => ⟨by rw [hw, wipe_wipe], ?_⟩
    refine p2 σ2 H'' _ q2 e2 (l.grow (g1.trans gg)) fun μ3 b H3 ⟨hl3, p3⟩ g3 m3 => ?_
    cases b with
    | false =>
      rw [if_neg (by decide)] at p3 ⊢
      exact ⟨μ3, acc, p3, hl3, gg.trans g3, m3⟩
    | true =>
      rw [if_pos rfl] at p3 ⊢
      refine p3 σ2 H3 _ m3 (e2.grow g3) (l.grow ((g1.trans gg).trans g3)) fun μ4 d v H4 ⟨hl4, p4⟩ g4 m4 d4 => ?_
      obtain ⟨us, hu, hb⟩ := m4 Dl _ hl4
      refine ⟨us, hu, by rw [← hb.length]; exact Nat.lt_of_le_of_lt hz.1 (by decide), _, _, p4, mput_same, ((gg.trans g3).trans g4).trans (Grow.wr hl4), m4.wr hl4 ⟨_, upd_same, (DenL.grow (Grow.wr hl4) _ _ hb).append (DenL.cons (Den.grow (Grow.wr hl4) _ _ d4) DenL.nil)⟩⟩
  · rintro H' ⟨μ', acc, p, hl, gr, mm⟩
    rcases hd μ' acc hl p with q | q
    · obtain ⟨us, hu, hb⟩ := mm Dl _ hl
      exact k _ _ _ H' q ((g1.trans gr).trans Grow.cut) mm.cut (by unfold Den; exact ⟨Dl, us, rfl, ⟨mcut_same, hu⟩, DenL.less Less.cut _ _ hb⟩)
    · exact k _ _ _ H' q (g1.trans gr) mm (by unfold Den; rfl)
theorem evb_yes {Ψ : Mu → Bool → Prop} (h : Ψ μ true) : EvB K W X μ ρ tYes Ψ := fun σ H Q m e l k => k μ true H h (Grow.refl _ _) m
/-- a comprehension whose turns change nothing: from f and p of the items -/
theorem evx_lcP {vs : List Nat} (h : ItX K W X μ ρ wi fun μ1 ds S => (ds.length ≤ 1000000 ∧ ∀ m : Mu, (∀ b o, μ1 b = some o → m b = some o) → S m) ∧ ∃ (p : D → Bool) (f : D → D),
    (∀ d, d ∈ ds → ∀ μ' : Mu, (∀ b o, μ1 b = some o → μ' b = some o) → TcX K W X vs μ' (wipeD ρ vs) g d fun μ2 ρ2 => EvB K W X μ2 ρ2 tt fun μ3 b => μ3 = μ2 ∧ b = p d ∧ (p d = true → EvX K W X μ3 ρ2 te fun μ4 y => μ4 = μ3 ∧ y = f d)) ∧
    Φ μ1 (.lst ((ds.filter p).map f))) : EvX K W X μ ρ (tLc wi g tt te vs) Φ := by
  refine evx_lc fun σ H R m e l k => h σ H R m e l fun μ1 ds S J H1 ⟨⟨hl, hS⟩, p, f, hp, hq⟩ g1 m1 ok => k μ1 ds S J H1 (fun Dl hD => ?_) g1 m1 ok
  have up : ∀ μ' : Mu, (∀ b, b ≠ Dl → μ' b = μ1 b) → ∀ b o, μ1 b = some o → μ' b = some o := fun μ' hμ b o e => by
    rw [hμ b (fun z => by rw [z, hD] at e; cases e)]; exact e
  refine ⟨fun i μ' acc => acc = ((ds.take i).filter p).map f ∧ ∀ b, b ≠ Dl → μ' b = μ1 b, ⟨by simp, fun b hb => mput_ne hb⟩, ?_, ?_, ?_⟩
  · rintro i μ' acc hi _ ⟨rfl, hμ⟩
    refine ⟨?_, hS _ (up μ' hμ)⟩
    rw [List.length_map]
    refine Nat.le_trans (List.length_filter_le _ _) ?_
    rw [List.length_take]
    omega
  · rintro i d μ' acc hi hD' ⟨rfl, hμ⟩
    have hm : d ∈ ds := List.mem_of_getElem? hi
    have e1 : ds.take (i + 1) = ds.take i ++ [d] := by
      rw [List.take_succ, hi]; rfl
    intro σ H v Q m e dd k
    refine hp d hm μ' (up μ' hμ) σ H v Q m e dd fun ρ2 σ2 q2 e2 hw => k ρ2 σ2 ?_ e2 hw
    refine q2.imp fun μ3 b ⟨r1, r2, r3⟩ => ?_
    subst r1 r2
    refine ⟨hD', ?_⟩
    cases hpd : p d with
    | false =>
      rw [if_neg (by decide)]
      refine ⟨?_, hμ⟩
      rw [e1, List.filter_append, List.filter_cons, hpd]
      simp
    | true =>
      rw [if_pos rfl]
      refine (r3 hpd).imp fun μ4 y ⟨s1, s2⟩ => ?_
      subst s1 s2
      refine ⟨hD', ?_, fun b hb => by rw [mput_ne hb]; exact hμ b hb⟩
      rw [e1, List.filter_append, List.filter_cons, hpd]
      simp
  · rintro μ' acc hD' ⟨rfl, hμ⟩
    left
    have : mcut μ' Dl = μ1 := by
      funext b
      by_cases hb : b = Dl
      · subst hb; rw [mcut_same, hD]
      · rw [mcut_ne hb, hμ b hb]
    rw [this, List.take_length]
    exact hq
end
/-! ### promises over data -/
abbrev PD := Mu → List D → DP → (Mu → Addr → D → Prop) → Prop
/-- the promise P of a def with n parameters -/
def spD (K : PySem.W.Frag) (n : Nat) (P : PD) : Sp := fun vs H Q E => ∃ (μ : Mu) (ds : List D) (post : DP) (exc : Mu → Addr → D → Prop), Mem K μ H ∧ DenL K μ H ds vs ∧ ds.length = n ∧ P μ ds post exc ∧
  (∀ μ' d v H', post μ' d → Grow μ H μ' H' → Mem K μ' H' → Den K μ' H' d v → Q v H') ∧
  (∀ μ' C d dx v H', exc μ' C d → Grow μ H μ' H' → Mem K μ' H' → μ' dx = none → H' dx = some (.xd [(("value" : Str), v)]) → Den K μ' H' d v → E (.ref C) (some dx) H')
abbrev WN : WX := fun _ _ _ _ => False
abbrev XN : XD := fun _ _ _ _ => False
abbrev excN : Mu → Addr → D → Prop := fun _ _ _ => False
def startD (N : List Str) (ds : List D) : Ro := ds.map some ++ List.replicate (N.length - ds.length) none
/-- a function of plain data: it changes nothing -/
def pureP (f : List D → Option D) : PD := fun μ ds post _ => ∃ d, f ds = some d ∧ post μ d

section
variable {K : PySem.W.Frag} {W : WX} {X : XD} {μ μ' : Mu} {H H' : Hp} {ρ : Ro} {E : ED} {ta tb te tx tl : TE} {tt tu : TT} {Φ : DP} {g : TG} {t : TS} {wi : TI} {n : Nat} {P : PD} {tr tk : TA}
theorem evx_call (h : EvL K W X μ ρ tr fun μ1 ds => ds.length = n ∧ P μ1 ds Φ excN) : EvX K W X μ ρ (tCall (spD K n P) [] E0 tr) Φ := fun σ H Q m e l k =>
  h σ H _ m e l fun μ1 ds vs H1 ⟨hl, hp⟩ g1 m1 d1 => ⟨μ1, ds, Φ, excN, m1, by rw [List.append_nil]; exact d1, hl, hp, fun μ' d v H' p g => k μ' d v H' p (g1.trans g), fun _ _ _ _ _ _ z => z.elim⟩
theorem evx_callS (h : EvL K W X μ ρ tr fun μ1 ds => ds.length = n ∧ P μ1 ds Φ fun μ' C d => X μ' ρ C d) : EvX K W X μ ρ (tCallS (spD K n P) (WE W) tr) Φ := fun σ H Q m e l k =>
  h σ H _ m e l fun μ1 ds vs H1 ⟨hl, hp⟩ g1 m1 d1 => ⟨μ1, ds, Φ, _, m1, d1, hl, hp, fun μ' d v H' p g => k μ' d v H' p (g1.trans g), fun μ' C d dx v H' p g mm => l μ' ρ C d dx v σ H' p (g1.trans g) mm ((e.grow g1).grow g)⟩
/-- a call with keywords: gD puts the data in the parameters' order -/
theorem evx_callK {gV : List V → List V → List V} (gD : List D → List D → List D) (hg : ∀ μ H ds es vs ws, DenL K μ H ds vs → DenL K μ H es ws → DenL K μ H (gD ds es) (gV vs ws))
    (h : EvL K W X μ ρ tr fun μ1 ds => EvL K W X μ1 ρ tk fun μ2 es => (gD ds es).length = n ∧ P μ2 (gD ds es) Φ excN) : EvX K W X μ ρ (tCallK (spD K n P) gV E0 tr tk) Φ := fun σ H Q m e l k =>
  h σ H _ m e l fun μ1 ds vs H1 h1 g1 m1 d1 => h1 σ H1 _ m1 (e.grow g1) (l.grow g1) fun μ2 es ws H2 ⟨hl, hp⟩ g2 m2 d2 =>
    ⟨μ2, _, Φ, excN, m2, hg _ _ _ _ _ _ (DenL.grow g2 _ _ d1) d2, hl, hp, fun μ' d v H' p g => k μ' d v H' p ((g1.trans g2).trans g), fun _ _ _ _ _ _ z => z.elim⟩
/-- raise C(e) -/
abbrev tRaiseO (C : Addr) (W : WX) (sp : Sp) (tr : TA) : TS := fun _ σ H => tMkO C sp [] tr σ H fun cls d H' => W cls d σ H'
/-- the promise of WorthError's __init__ -/
def spInit (K : PySem.W.Frag) (f : Str) : Sp := fun vs H Q _ => ∃ (a C : Addr) (v : V), vs = [.ref a, v] ∧ OexC K C ∧ PySem.W.findIn K (.ref C) f = some none ∧ H a = some (exo a C none) ∧
  ∀ dx, H dx = none → dx ≠ a → Q .non (upd (upd H dx (exd dx [(f, v)])) a (exo a C (some dx)))
theorem gs_raise {C : Addr} (hC : OexC K C) (hv : PySem.W.findIn K (.ref C) "value" = some none) (h : EvL K W X μ ρ tr fun μ1 ds => ∃ d, ds = [d] ∧ X μ1 ρ C d) : GS K W X μ ρ (tRaiseO C W (spInit K "value") tr) E := fun σ H D m e l k => by
  refine h σ H _ m e l fun μ1 ds vs H1 ⟨d, hd, hx⟩ g1 m1 d1 => ?_
  subst hd
  unfold DenL at d1
  obtain ⟨w, ws, e1, a, b⟩ := d1
  unfold DenL at b
  subst b e1
  refine ⟨Nat.le_of_ble_eq_true rfl, fun p hp => ⟨p, C, w, rfl, hC, hv, upd_same, fun dx hdx hne => ⟨rfl, dx, [(("value" : Str), w)], upd_same, ?_, ?_, ?_⟩⟩⟩
  · rw [upd_ne hne, upd_same]
  · rw [upd_ne hne] at hdx; exact hdx
  · have hdx' : H1 dx = none := by rw [upd_ne hne] at hdx; exact hdx
    have eq : upd (L2.del (upd (upd (upd H1 p (exo p C none)) dx (exd dx [(("value" : Str), w)])) p (exo p C (some dx))) p) dx (.xd [(("value" : Str), w)]) = upd H1 dx (.xd [(("value" : Str), w)]) := by
      funext b
      by_cases h1 : b = dx
      · rw [h1, upd_same, upd_same]
      · rw [upd_ne h1, upd_ne h1]
        by_cases h2 : b = p
        · rw [h2, del_same, hp]
        · rw [del_ne h2, upd_ne h2, upd_ne h1, upd_ne h2]
    rw [eq]
    exact l μ1 ρ C d dx w σ _ hx (g1.trans (Grow.new hdx')) (m1.new hdx') ((e.grow g1).grow (Grow.new hdx')) (m1.free hdx') upd_same (Den.grow (Grow.new hdx') _ _ a)
theorem envIs_start {N : List Str} : ∀ {ds : List D} {vs : List V}, DenL K μ H ds vs → EnvIs K μ H (startD N ds) (L2.start N vs) := fun {ds vs} h => by
  have hl := h.length
  refine ⟨?_, fun i d e => ?_⟩
  · unfold L2.start startD
    simp only [List.length_append, List.length_map, List.length_replicate]
    omega
  · unfold startD at e
    unfold L2.start
    by_cases hi : i < ds.length
    · rw [List.getElem?_append_left (by rw [List.length_map]; exact hi), List.getElem?_map] at e
      rw [List.getElem?_append_left (by rw [List.length_map]; omega), List.getElem?_map]
      cases q : ds[i]? with
      | none => rw [q] at e; cases e
      | some x =>
        rw [q] at e
        cases e
        obtain ⟨v, h1, h2⟩ := h.get q
        exact ⟨v, by rw [h1]; rfl, h2⟩
    · rw [List.getElem?_append_right (by rw [List.length_map]; omega)] at e
      by_cases hj : i - (ds.map some).length < N.length - ds.length
      · rw [List.getElem?_replicate, if_pos hj] at e
        cases e
      · rw [List.getElem?_replicate, if_neg hj] at e
        cases e
end
section
variable {P : Program} {w : World} {K : PySem.W.Frag} {mg : Str → Option Value} {base : Heap}
/-- a def keeps its promise; no exception leaves it -/
theorem def_ok {x qual : Str} {st : Stmt} {f : Addr} {fd : FuncData} {N ps : List Str} {k : Nat} {Pd : PD} (F : Fun K x qual st f fd) (S : FnScope N ps (defScope st))
    (hb : ∀ (cdv : Value) (A : Around) (outer : List Env) (s : Shared) (H : Hp) (E : XK), Room k (A.deeper (envOfC qual (defScope st) s.heap.objs.size f cdv)) →
      ∃ t, PSs (cxOf CX0 P w K mg base N qual (defScope st) f cdv A outer s H E).nox (defBody st) t ∧ ∀ μ ds post exc, ds.length = ps.length → Pd μ ds post exc → GS K WN XN μ (startD N ds) t { nx := fun m _ => post m .non, rt := post }) :
    FnOk P w K mg base CX0 (k + 1) f fd ps (spD K ps.length Pd) := by
  refine F.ok S (fun vs H Q E h => ?_) fun cdv A outer s H vs Q E hr h => ?_
  · obtain ⟨μ, ds, post, exc, _, d, hl, _⟩ := h
    rw [← d.length, hl]
  · obtain ⟨μ, ds, post, exc, m, d, hl, hp, h1, h2⟩ := h
    obtain ⟨t, ht, hg⟩ := hb cdv A outer s H E hr
    refine ⟨t, ht, hg μ ds post exc hl hp (L2.start N vs) H _ m (envIs_start d) (fun _ _ _ _ _ _ _ _ z => z.elim) ⟨?_, ?_, fun _ _ _ _ z => z.elim, fun _ _ _ _ z => z.elim⟩⟩
    · intro μ' ρ' σ' H' p gr mm ee
      exact h1 μ' .non .non H' p gr mm (by unfold Den; rfl)
    · intro μ' d v H' p gr mm dd
      exact h1 μ' d v H' p gr mm dd
/-- a def that may raise keeps its promise -/
theorem def_okX {x qual : Str} {st : Stmt} {f : Addr} {fd : FuncData} {N ps : List Str} {k : Nat} {Pd : PD} (F : Fun K x qual st f fd) (S : FnScope N ps (defScope st))
    (hb : ∀ (cdv : Value) (A : Around) (outer : List Env) (s : Shared) (H : Hp) (E : XK), Room k (A.deeper (envOfC qual (defScope st) s.heap.objs.size f cdv)) →
      ∃ t, PSs (cxOf (L2.CX P w) P w K mg base N qual (defScope st) f cdv A outer s H E) (defBody st) t ∧ ∀ μ ds post exc, ds.length = ps.length → Pd μ ds post exc → GS K (fun cls d _ H => E cls d H) (fun m _ C d => exc m C d) μ (startD N ds) t { nx := fun m _ => post m .non, rt := post }) :
    FnOk P w K mg base (L2.CX P w) (k + 1) f fd ps (spD K ps.length Pd) := by
  refine F.okX S (fun vs H Q E h => ?_) fun cdv A outer s H vs Q E hr h => ?_
  · obtain ⟨μ, ds, post, exc, _, d, hl, _⟩ := h
    rw [← d.length, hl]
  · obtain ⟨μ, ds, post, exc, m, d, hl, hp, h1, h2⟩ := h
    obtain ⟨t, ht, hg⟩ := hb cdv A outer s H E hr
    refine ⟨t, ht, hg μ ds post exc hl hp (L2.start N vs) H _ m (envIs_start d) ?_ ⟨?_, ?_, fun _ _ _ _ z => z.elim, fun _ _ _ _ z => z.elim⟩⟩
    · intro μ' ρ' C d dx v σ' H' p gr mm ee hx hd dd
      exact h2 μ' C d dx v H' p gr mm hx hd dd
    · intro μ' ρ' σ' H' p gr mm ee
      exact h1 μ' .non .non H' p gr mm (by unfold Den; rfl)
    · intro μ' d v H' p gr mm dd
      exact h1 μ' d v H' p gr mm dd
/-- another promise that follows -/
theorem fn_imp {CX : CXT} {k : Nat} {f : Addr} {fd : FuncData} {ps : List Str} {n : Nat} {P1 P2 : PD} (F : FnOk P w K mg base CX k f fd ps (spD K n P1)) (h : ∀ μ ds post exc, P2 μ ds post exc → P1 μ ds post exc) :
    FnOk P w K mg base CX k f fd ps (spD K n P2) := F.imp fun vs H Q E ⟨μ, ds, post, exc, m, d, hl, hp, r⟩ => ⟨μ, ds, post, exc, m, d, hl, h _ _ _ _ hp, r⟩
end
/-! ### while -/
section
variable {K : PySem.W.Frag} {W : WX} {X : XD} {μ μ' : Mu} {H H' : Hp} {ρ : Ro} {E : ED} {tt tu : TT} {Φ : DP} {t : TS}
theorem gs_while (Iv : Nat → Mu → Ro → Prop) (m0 : Nat) (h0 : Iv m0 μ ρ) (hs : ∀ m μ' ρ', Iv m μ' ρ' → EvB K W X μ' ρ' tt fun μ1 b => if b = true then GS K W X μ1 ρ' t { E with nx := fun μ2 ρ2 => ∃ m', m' < m ∧ Iv m' μ2 ρ2, ct := fun μ2 ρ2 => ∃ m', m' < m ∧ Iv m' μ2 ρ2, bk := E.nx } else E.nx μ1 ρ') :
    GS K W X μ ρ (tWhile tt t) E := fun σ H D mm e l k => by
  refine ⟨fun m σ' H' => ∃ μ' ρ', Iv m μ' ρ' ∧ Grow μ H μ' H' ∧ Mem K μ' H' ∧ EnvIs K μ' H' ρ' σ', ⟨m0, μ, ρ, h0, Grow.refl _ _, mm, e⟩, ?_⟩
  rintro m σ' H' ⟨μ', ρ', p, gr, m1, ee⟩
  refine hs m μ' ρ' p σ' H' _ m1 ee (l.grow gr) fun μ1 b H1 h1 g1 m2 => ?_
  cases b with
  | false =>
    rw [if_neg (by decide)] at h1 ⊢
    exact k.nx _ _ _ _ h1 (gr.trans g1) m2 (ee.grow g1)
  | true =>
    rw [if_pos rfl] at h1 ⊢
    have gg := gr.trans g1
    refine ⟨_, fun _ _ z => z, h1 σ' H1 _ m2 (ee.grow g1) (l.grow gg) ⟨?_, fun _ _ _ _ h x => k.rt _ _ _ _ h (gg.trans x), fun _ _ _ _ h x => k.nx _ _ _ _ h (gg.trans x), ?_⟩⟩
    · rintro μ2 ρ2 σ2 H2 ⟨m', hm, q⟩ g2 m3 e3
      exact ⟨m', hm, μ2, ρ2, q, gg.trans g2, m3, e3⟩
    · rintro μ2 ρ2 σ2 H2 ⟨m', hm, q⟩ g2 m3 e3
      exact ⟨m', hm, μ2, ρ2, q, gg.trans g2, m3, e3⟩
end
/-! ### operations of wide ints -/
def CMulB (i j : Int) : Prop := ∃ a b : Nat, i.natAbs < 2 ^ a ∧ j.natAbs < 2 ^ b ∧ a + b ≤ 134000000
def CPowB (i j : Int) : Prop := 0 ≤ j ∧ ∃ a : Nat, i.natAbs < 2 ^ a ∧ a * j.toNat ≤ 134000000
def CDivB (_ j : Int) : Prop := j ≠ 0 ∧ j.natAbs < 2 ^ 9000
theorem intBits_le {x : Int} {a : Nat} (h : x.natAbs < 2 ^ a) : Builtin.Int.intBits x ≤ a := by
  unfold Builtin.Int.intBits
  split
  · omega
  · rename_i hx
    have h0 : x.natAbs ≠ 0 := by simpa using hx
    have : x.natAbs.log2 < a := (Nat.log2_lt h0).mpr h
    omega
theorem CMulB.ok {i j : Int} (h : CMulB i j) : IntMulOk i j := by
  obtain ⟨a, b, h1, h2, h3⟩ := h
  have b1 := intBits_le h1
  have b2 := intBits_le h2
  have e : bitsLine = 134217728 := by decide
  unfold IntMulOk
  intro z
  rw [Bool.and_eq_true] at z
  have z2 := z.2
  unfold Builtin.Int.intTooBig at z2
  have z3 := of_decide_eq_true z2
  rw [e] at z3
  omega
/-- either reading -/
def rOr (r r' : R2) : R2 := fun x y H Q => r x y H Q ∨ r' x y H Q
section
variable {X : Cx}
theorem op_or2 {f : Value → Value → Sem Value} {r r' : R2} (a : OpR X f r) (b : OpR X f r') : OpR X f (rOr r r') := fun pins s σ H x y v u Q I rx ry h => by
  rcases h with h | h
  · exact a pins s σ H x y v u Q I rx ry h
  · exact b pins s σ H x y v u Q I rx ry h
theorem op_mulB : OpR X (binaryOp .Mult) (rI CMulB fun i j => .int (i * j)) := opI fun _ _ _ _ _ _ _ hc q => mul_int q hc.ok
theorem op_divB : OpR X (binaryOp .FloorDiv) (rI CDivB fun i j => .int (i.fdiv j)) := opI fun _ _ _ _ _ _ _ hc q => floordiv_int hc.1 q (.inl (PyProof.noPylong_of_log2 ((Nat.log2_lt (by have := hc.1; omega)).mpr hc.2)))
theorem op_powB : OpR X (binaryOp .Pow) (rI CPowB fun i j => .int (i ^ j.toNat)) := opI fun i j _ _ _ _ _ hc q => by
  obtain ⟨h0, a, h1, h2⟩ := hc
  refine pow_int h0 ?_ q
  have b1 := intBits_le h1
  have e : ((j.toNat : Nat) : Int) = j := Int.toNat_of_nonneg h0
  have : Builtin.Int.intBits i * j.toNat ≤ 134000000 := Nat.le_trans (Nat.mul_le_mul_right _ b1) h2
  rw [← e]
  have q2 : ((Builtin.Int.intBits i * j.toNat : Nat) : Int) ≤ ((134000000 : Nat) : Int) := Int.ofNat_le.mpr this
  rw [Int.natCast_mul] at q2
  exact Int.le_trans q2 (by decide)
/-- a + b: ints, texts, lists, tuples -/
def rAddS : R2 := fun x y H Q => ∃ i j, x = .str i ∧ y = .str j ∧ i.length + j.length ≤ sizeLine ∧ Q (.str (i ++ j)) H
theorem op_addS : OpR X (binaryOp .Add) rAddS := op_add_str
abbrev rAddU (K : PySem.W.Frag) : R2 := rOr (rI0 fun i j => .int (i + j)) (rOr rAddS (rOr rCat (rCatT K)))
theorem op_addU : OpR X (binaryOp .Add) (rAddU X.K) := op_or2 op_add (op_or2 op_addS (op_or2 op_cat op_catT))
abbrev rMulU : R2 := rOr (rI CMulB fun i j => .int (i * j)) rRep
theorem op_mulU : OpR X (binaryOp .Mult) rMulU := op_or2 op_mulB op_rep
abbrev rEqU (K : PySem.W.Frag) : R2 := rOr rEq (rEqD K)
abbrev rNeU (K : PySem.W.Frag) : R2 := rOr rNe (rNeD K)
theorem op_eqU (hu : X.A.units + 64 < cLine) : OpR X (compareOp .Eq) (rEqU X.K) := op_or2 op_eq (op_eqD hu)
theorem op_neU (hu : X.A.units + 64 < cLine) : OpR X (compareOp .NotEq) (rNeU X.K) := op_or2 op_ne (op_neD hu)
end
/-! ### over data -/
section
variable {K : PySem.W.Frag} {W : WX} {X : XD} {μ μ' : Mu} {H H' : Hp} {ρ : Ro} {E : ED} {ta tb te tx tl : TE} {Φ : DP} {x y : D} {r r' : R2} {i j : Int}
theorem opx_l (h : OpX K r μ x y Φ) : OpX K (rOr r r') μ x y Φ := fun H v w Q m a b k => .inl (h H v w Q m a b k)
theorem opx_r (h : OpX K r' μ x y Φ) : OpX K (rOr r r') μ x y Φ := fun H v w Q m a b k => .inr (h H v w Q m a b k)
theorem opx_i {C : Int → Int → Prop} {g : Int → Int → Int} (hc : C i j) (h : Φ μ (.int (g i j))) : OpX K (rI C fun i j => .int (g i j)) μ (.int i) (.int j) Φ := fun H v w Q m a b k => by
  unfold Den at a b
  exact ⟨i, j, a, b, hc, k μ _ _ H h (Grow.refl _ _) m (by unfold Den; rfl)⟩
theorem opx_i0 {g : Int → Int → Int} (h : Φ μ (.int (g i j))) : OpX K (rI0 fun i j => .int (g i j)) μ (.int i) (.int j) Φ := fun H v w Q m a b k => by
  unfold Den at a b
  exact ⟨i, j, a, b, k μ _ _ H h (Grow.refl _ _) m (by unfold Den; rfl)⟩
theorem opx_b0 {g : Int → Int → Bool} (h : Φ μ (.bl (g i j))) : OpX K (rI0 fun i j => .bl (g i j)) μ (.int i) (.int j) Φ := fun H v w Q m a b k => by
  unfold Den at a b
  exact ⟨i, j, a, b, k μ _ _ H h (Grow.refl _ _) m (by unfold Den; rfl)⟩
theorem opx_addS {a b : Str} (hl : a.length + b.length ≤ 1000000) (h : Φ μ (.str (a ++ b))) : OpX K rAddS μ (.str a) (.str b) Φ := fun H v w Q m p q k => by
  unfold Den at p q
  exact ⟨a, b, p, q, Nat.le_trans hl (by decide), k μ _ _ H h (Grow.refl _ _) m (by unfold Den; rfl)⟩
theorem opx_eqI (h : Φ μ (.bl (decide (i = j)))) : OpX K rEq μ (.int i) (.int j) Φ := fun H v w Q m a b k => by
  unfold Den at a b
  subst a b
  refine ⟨rfl, k μ _ _ H h (Grow.refl _ _) m ?_⟩
  unfold Den
  congr 1
  simp
theorem opx_neI (h : Φ μ (.bl (!decide (i = j)))) : OpX K rNe μ (.int i) (.int j) Φ := fun H v w Q m a b k => by
  unfold Den at a b
  subst a b
  refine ⟨rfl, k μ _ _ H h (Grow.refl _ _) m ?_⟩
  unfold Den
  congr 1
  simp
theorem opx_eqS {i j : Str} (h : Φ μ (.bl (decide (i = j)))) : OpX K rEq μ (.str i) (.str j) Φ := fun H v w Q m a b k => by
  unfold Den at a b
  subst a b
  refine ⟨rfl, k μ _ _ H h (Grow.refl _ _) m ?_⟩
  unfold Den
  congr 1
  simp
theorem opx_neS {i j : Str} (h : Φ μ (.bl (!decide (i = j)))) : OpX K rNe μ (.str i) (.str j) Φ := fun H v w Q m a b k => by
  unfold Den at a b
  subst a b
  refine ⟨rfl, k μ _ _ H h (Grow.refl _ _) m ?_⟩
  unfold Den
  congr 1
  simp
theorem opx_eqB {i j : Bool} (h : Φ μ (.bl (decide (i = j)))) : OpX K rEq μ (.bl i) (.bl j) Φ := fun H v w Q m a b k => by
  unfold Den at a b
  subst a b
  refine ⟨rfl, k μ _ _ H h (Grow.refl _ _) m ?_⟩
  unfold Den
  congr 1
  simp
theorem opx_neB {i j : Bool} (h : Φ μ (.bl (!decide (i = j)))) : OpX K rNe μ (.bl i) (.bl j) Φ := fun H v w Q m a b k => by
  unfold Den at a b
  subst a b
  refine ⟨rfl, k μ _ _ H h (Grow.refl _ _) m ?_⟩
  unfold Den
  congr 1
  simp
def isNon : D → Bool
  | .non => true
  | _ => false
theorem den_non {d : D} {v : V} (h : Den K μ H d v) : decide (v = .non) = isNon d := by
  cases d <;> unfold Den at h <;> unfold isNon
  case non => rw [h]; rfl
  case bl => rw [h]; rfl
  case int => rw [h]; rfl
  case str => rw [h]; rfl
  case ty => rw [h]; rfl
  case «at» => rw [h]; rfl
  case tup => obtain ⟨p, vs, e, _⟩ := h; rw [e]; rfl
  case lst => obtain ⟨p, vs, e, _⟩ := h; rw [e]; rfl
  case frz => obtain ⟨p, vs, e, _⟩ := h; rw [e]; rfl
  case dct => obtain ⟨p, vs, e, _⟩ := h; rw [e]; rfl
  case obj => obtain ⟨p, dx, vs, e, _⟩ := h; rw [e]; rfl
  case exc => obtain ⟨p, dx, vs, e, _⟩ := h; rw [e]; rfl
theorem evx_isN (h : EvX K W X μ ρ te fun μ1 d => Φ μ1 (.bl (isNon d))) : EvX K W X μ ρ (tIsN te) Φ := fun σ H Q m e l k =>
  h σ H _ m e l fun μ1 d v H1 h1 g1 m1 d1 => k μ1 _ _ H1 h1 g1 m1 (by rw [den_non d1]; unfold Den; rfl)
theorem evx_notN (h : EvX K W X μ ρ te fun μ1 d => Φ μ1 (.bl (!isNon d))) : EvX K W X μ ρ (tNotN te) Φ := fun σ H Q m e l k =>
  h σ H _ m e l fun μ1 d v H1 h1 g1 m1 d1 => k μ1 _ _ H1 h1 g1 m1 (by rw [den_non d1]; unfold Den; rfl)
theorem unx_i {g : Int → Int} (h : Φ μ (.int (g i))) : UnX K (rU fun i => .int (g i)) μ (.int i) Φ := fun H v Q m a k => by
  unfold Den at a
  exact ⟨i, a, k μ _ _ H h (Grow.refl _ _) m (by unfold Den; rfl)⟩
/-! ### built-ins -/
theorem denL1 {d : D} {vs : List V} (h : DenL K μ H [d] vs) : ∃ v, vs = [v] ∧ Den K μ H d v := by
  unfold DenL at h
  obtain ⟨v, ws, e, a, b⟩ := h
  unfold DenL at b
  subst b
  exact ⟨v, e, a⟩
theorem denL2 {d d' : D} {vs : List V} (h : DenL K μ H [d, d'] vs) : ∃ v v', vs = [v, v'] ∧ Den K μ H d v ∧ Den K μ H d' v' := by
  unfold DenL at h
  obtain ⟨v, ws, e, a, b⟩ := h
  obtain ⟨v', e', b'⟩ := denL1 b
  subst e'
  exact ⟨v, v', e, a, b'⟩
theorem cax_abs (h : Φ μ (.int (if i < 0 then -i else i))) : CaX K (fun xs H Q => ∃ i, xs = [.int i] ∧ Q (.int (if i < 0 then -i else i)) H) μ [.int i] Φ := fun H vs Q m d k => by
  obtain ⟨v, e, a⟩ := denL1 d
  unfold Den at a
  subst a
  exact ⟨i, e, k μ _ _ H h (Grow.refl _ _) m (by unfold Den; rfl)⟩
theorem cax_int (h : Φ μ (.int i)) : CaX K (fun xs H Q => (∃ i, xs = [.int i] ∧ Q (.int i) H) ∨ ∃ k, xs = [.bl k] ∧ Q (.int (if k then 1 else 0)) H) μ [.int i] Φ := fun H vs Q m d k => by
  obtain ⟨v, e, a⟩ := denL1 d
  unfold Den at a
  subst a
  exact .inl ⟨i, e, k μ _ _ H h (Grow.refl _ _) m (by unfold Den; rfl)⟩
theorem cax_intB {b : Bool} (h : Φ μ (.int (if b then 1 else 0))) : CaX K (fun xs H Q => (∃ i, xs = [.int i] ∧ Q (.int i) H) ∨ ∃ k, xs = [.bl k] ∧ Q (.int (if k then 1 else 0)) H) μ [.bl b] Φ := fun H vs Q m d k => by
  obtain ⟨v, e, a⟩ := denL1 d
  unfold Den at a
  subst a
  exact .inr ⟨b, e, k μ _ _ H h (Grow.refl _ _) m (by unfold Den; rfl)⟩
theorem cax_gcd (h : Φ μ (.int ((Nat.gcd i.natAbs j.natAbs : Nat) : Int))) : CaX K rGcd μ [.int i, .int j] Φ := fun H vs Q m d k => by
  obtain ⟨v, v', e, a, b⟩ := denL2 d
  unfold Den at a b
  subst a b
  exact ⟨i, j, e, k μ _ _ H h (Grow.refl _ _) m (by unfold Den; rfl)⟩
theorem cax_max2 (h : Φ μ (.int (if j > i then j else i))) : CaX K (fun xs H Q => ∃ i j, xs = [.int i, .int j] ∧ Q (.int (if j > i then j else i)) H) μ [.int i, .int j] Φ := fun H vs Q m d k => by
  obtain ⟨v, v', e, a, b⟩ := denL2 d
  unfold Den at a b
  subst a b
  exact ⟨i, j, e, k μ _ _ H h (Grow.refl _ _) m (by unfold Den; rfl)⟩
theorem cax_min2 (h : Φ μ (.int (if j < i then j else i))) : CaX K (fun xs H Q => ∃ i j, xs = [.int i, .int j] ∧ Q (.int (if j < i then j else i)) H) μ [.int i, .int j] Φ := fun H vs Q m d k => by
  obtain ⟨v, v', e, a, b⟩ := denL2 d
  unfold Den at a b
  subst a b
  exact ⟨i, j, e, k μ _ _ H h (Grow.refl _ _) m (by unfold Den; rfl)⟩
/-- len: a list (kept, frozen or one that may change), a tuple, a text -/
def LenD (μ : Mu) : D → Nat → Prop
  | .lst ds, n => n = ds.length
  | .frz ds, n => n = ds.length
  | .tup ds, n => n = ds.length
  | .str z, n => z.length ≤ 1000000 ∧ n = z.length
  | .at a, n => ∃ ds, μ a = some (.lst ds) ∧ n = ds.length
  | _, _ => False
theorem cax_len {n : Nat} (hx : LenD μ x n) (h : Φ μ (.int n)) : CaX K (fun xs H Q => ∃ x n, xs = [x] ∧ LenV K x H n ∧ Q (.int n) H) μ [x] Φ := fun H vs Q m d k => by
  obtain ⟨v, e, a⟩ := denL1 d
  refine ⟨v, n, e, ?_, k μ _ _ H h (Grow.refl _ _) m (by unfold Den; rfl)⟩
  cases x <;> unfold Den at a <;> unfold LenD at hx <;> try exact hx.elim
  case str => subst a; exact ⟨Nat.le_trans hx.1 (by decide), hx.2⟩
  case tup =>
    obtain ⟨p, us, e, s, b⟩ := a
    subst e
    exact .inr ⟨us, s.sq, by rw [hx, b.length]⟩
  case lst =>
    obtain ⟨p, us, e, s, b⟩ := a
    subst e
    exact .inl ⟨us, SqL.of s.2, by rw [hx, b.length]⟩
  case frz =>
    obtain ⟨p, us, e, s, b⟩ := a
    subst e
    exact .inl ⟨us, s.sq, by rw [hx, b.length]⟩
  case «at» =>
    obtain ⟨ds, q, en⟩ := hx
    obtain ⟨us, e1, b⟩ := m _ _ q
    subst a
    exact .inl ⟨us, SqL.of e1, by rw [en, b.length]⟩
/-! ### items -/
/-- the items of something that has a place for each -/
def ItemsD (μ : Mu) : D → List D → Prop
  | .lst ds, es => es = ds
  | .frz ds, es => es = ds
  | .tup ds, es => es = ds
  | .at a, es => μ a = some (.lst es)
  | _, _ => False
theorem atI_den {ds : List D} {vs : List V} {i : Int} {d : D} (b : DenL K μ H ds vs) (h : atI ds i = some d) : ∃ v, atI vs i = some v ∧ Den K μ H d v := by
  unfold atI at h ⊢
  rw [← b.length]
  cases q : ixN ds.length i with
  | none => rw [q] at h; cases h
  | some j =>
    rw [q] at h
    have h' : ds[j]? = some d := h
    obtain ⟨v, h1, h2⟩ := b.get h'
    exact ⟨v, h1, h2⟩
theorem opx_ix {es : List D} {d : D} (hx : ItemsD μ x es) (ha : atI es i = some d) (h : Φ μ d) : OpX K (rIx K) μ x (.int i) Φ := fun H v w Q m a b k => by
  unfold Den at b
  subst b
  cases x <;> unfold Den at a <;> unfold ItemsD at hx <;> try exact hx.elim
  case tup =>
    obtain ⟨p, us, e, s, b⟩ := a
    subst e hx
    obtain ⟨u, q1, q2⟩ := atI_den b ha
    exact .inr (.inl ⟨p, us, i, u, rfl, rfl, s.sq, q1, k μ _ _ H h (Grow.refl _ _) m q2⟩)
  case lst =>
    obtain ⟨p, us, e, s, b⟩ := a
    subst e hx
    obtain ⟨u, q1, q2⟩ := atI_den b ha
    exact .inl ⟨p, us, i, u, rfl, rfl, SqL.of s.2, q1, k μ _ _ H h (Grow.refl _ _) m q2⟩
  case frz =>
    obtain ⟨p, us, e, s, b⟩ := a
    subst e hx
    obtain ⟨u, q1, q2⟩ := atI_den b ha
    exact .inl ⟨p, us, i, u, rfl, rfl, s.sq, q1, k μ _ _ H h (Grow.refl _ _) m q2⟩
  case «at» =>
    obtain ⟨us, e1, b⟩ := m _ _ hx
    subst a
    obtain ⟨u, q1, q2⟩ := atI_den b ha
    exact .inl ⟨_, us, i, u, rfl, rfl, SqL.of e1, q1, k μ _ _ H h (Grow.refl _ _) m q2⟩
theorem opx_ixS {z : Str} {c : Nat} (hz : z.length ≤ 1000000) (ha : atI z.cps.toList i = some c) (h : Φ μ (.str ⟨#[c]⟩)) : OpX K (rIx K) μ (.str z) (.int i) Φ := fun H v w Q m a b k => by
  unfold Den at a b
  subst a b
  exact .inr (.inr ⟨z, i, c, rfl, rfl, Nat.le_trans hz (by decide), ha, k μ _ _ H h (Grow.refl _ _) m (by unfold Den; rfl)⟩)
theorem atI_pos {α : Type} {xs : List α} {n : Nat} {v : α} (h : xs[n]? = some v) : atI xs (n : Int) = some v := atI_nat h
/-- x[i] = e -/
theorem tgx_sub {to ti : TE} {d : D} {Φ : Mu → Ro → Prop} (h : EvX K W X μ ρ to fun μ1 o => EvX K W X μ1 ρ ti fun μ2 i => ∃ a ds k j, o = .at a ∧ i = .int k ∧ μ2 a = some (.lst ds) ∧ ixN ds.length k = some j ∧ Φ (mput μ2 a (.lst (ds.set j d))) ρ) :
    TgX K W X μ ρ (gSub to ti rSetL) d Φ := fun σ H v Q m e l dd k =>
  h σ H _ m e l fun μ1 o ov H1 h1 g1 m1 d1 => h1 σ H1 _ m1 (e.grow g1) (l.grow g1) fun μ2 i iv H2 ⟨a, ds, kk, j, e1, e2, ha, hj, hp⟩ g2 m2 d2 => by
    subst e1 e2
    unfold Den at d1 d2
    subst d1 d2
    obtain ⟨us, q, b⟩ := m2 a _ ha
    have gg := g1.trans g2
    refine ⟨a, us, kk, j, rfl, rfl, q, by rw [← b.length]; exact hj, k _ ρ σ _ hp (gg.trans (Grow.wr ha)) (m2.wr ha ⟨_, upd_same, DenL.set (Den.grow (gg.trans (Grow.wr ha)) _ _ dd) j (DenL.grow (Grow.wr ha) _ _ b)⟩) ((e.grow gg).grow (Grow.wr ha))⟩
/-! ### methods of lists -/
theorem evx_append {to : TE} {p : Addr} {ds : List D} (ho : ∀ Φ : DP, Φ μ (.at p) → EvX K W X μ ρ to Φ) (h : EvX K W X μ ρ te fun μ1 d => ∃ ds, μ1 p = some (.lst ds) ∧ ds.length ≤ 1000000 ∧ Φ (mput μ1 p (.lst (ds ++ [d]))) .non) (h0 : μ p = some (.lst ds)) :
    EvX K W X μ ρ (tBM K "list" rAppend to (tCons te tNil)) Φ := fun σ H Q m e l k =>
  ho (fun μ1 d => μ1 = μ ∧ d = .at p) ⟨rfl, rfl⟩ σ H _ m e l fun μ0 d0 v0 H0 ⟨e1, e2⟩ g0 m0 d0' => by
    subst e1 e2
    unfold Den at d0'
    subst d0'
    obtain ⟨us0, q0, b0⟩ := m0 p _ h0
    refine ⟨.inl ⟨rfl, us0, SqL.of q0⟩, ?_⟩
    refine h σ H0 _ m0 (e.grow g0) (l.grow g0) fun μ1 d v H1 ⟨ds1, hp, hz, hq⟩ g1 m1 d1 => ?_
    obtain ⟨us, q, b⟩ := m1 p _ hp
    exact ⟨p, us, v, rfl, rfl, q, by rw [← b.length]; exact Nat.lt_of_le_of_lt hz (by decide), k _ _ _ _ hq ((g0.trans g1).trans (Grow.wr hp)) (m1.wr hp ⟨_, upd_same, (DenL.grow (Grow.wr hp) _ _ b).append (DenL.cons (Den.grow (Grow.wr hp) _ _ d1) DenL.nil)⟩) (by unfold Den; rfl)⟩
end
section
variable {X : Cx} {pins : List (Addr × Obj)} {σ : L2.St} {H : Hp} {s : Shared}
/-- an object of ours, untracked till now, is tracked from now on -/
theorem inv_track {a : Addr} {o : HO} (I : L2.Inv X pins σ H s) (hn : H a = none) (h0 : X.s_0.heap.get? a = none) (hL : a ≠ X.env.locals) (hc : ∀ x c, X.env.cells.lookup x = some c → c ≠ a) (hp : ∀ p ∈ X.pn ++ pins, p.1 ≠ a)
    (ok : ObjOk X.prog X.w (upd H a o) s.heap a o) : L2.Inv X pins σ (upd H a o) s := by
  have ne : ∀ {b u}, H b = some u → b ≠ a := fun {b u} e z => by rw [z, hn] at e; cases e
  have n0 : ∀ {b u}, X.s_0.heap.get? b = some u → b ≠ a := fun {b u} e z => by rw [z, h0] at e; cases e
  have B := I.base
  have base' : Un X.fs X.ex X.H_0 (upd H a o) X.s_0.heap s.heap := {
    keep := B.keep
    slot := B.slot
    free := fun b u e q x => (upd_ne (n0 e)).trans (B.free b u e q x)
    there := B.there
    tups := fun b xs e => (upd_ne (ne (B.tups b xs e))).trans (B.tups b xs e)
    frzs := fun b u v e => (upd_ne (ne (B.frzs b u v e))).trans (B.frzs b u v e)
    tbls := fun b ps e => by
      obtain ⟨m, q⟩ := B.tbls b ps e
      exact ⟨m, (upd_ne (ne q)).trans q⟩ }
  refine ⟨I.ok, I.os, I.bare, base', I.loc, I.cell, (upd_ne (Ne.symm hL)).trans I.free, fun x c e => (upd_ne (hc x c e)).trans (I.freeC x c e), fun p q => ?_, fun b u e => ?_, I.len⟩
  · obtain ⟨h1, h2, h3⟩ := I.pin p q
    exact ⟨h1, (upd_ne (hp p q)).trans h2, h3⟩
  · by_cases hb : b = a
    · subst hb
      rw [upd_same] at e
      cases e
      exact ok
    · rw [upd_ne hb] at e
      exact (I.hok b u e).stay (fun _ _ _ z => z) (fun c q => (upd_ne (ne q)).trans q) fun c xs q => (upd_ne (ne q)).trans q
/-- what a clause «except x as n», that keeps the error, wishes of the body's errors -/
def wKeep (K : PySem.W.Frag) (c : Value) (i : Nat) (ts : Addr → TS) (Dd : Ends) : WX := fun cls d σ H => ∃ C dx, cls = .ref C ∧ d = some dx ∧ PySem.W.exmOne K cls c = some true ∧
  ∀ a, H a = none → ts a { nx := fun σ' H' => H' a = none → Dd.nx (σ'.set i none) (upd H' a (ExT a C dx)), rt := fun v H' => H' a = none → Dd.rt v (upd H' a (ExT a C dx)) } (σ.set i (some (.ref a))) H
/-- try: body, except c as n: suite, the error kept -/
def tTry (K : PySem.W.Frag) (c : Value) (i : Nat) (ts : Addr → TS) (tb : WX → TS) : TS := fun Dd σ H => tb (wKeep K c i ts Dd) Dd σ H
variable {x n : Str} {c : Value} {i : Nat} {body suite : List Stmt} {b0 : Stmt} {np pos pos' : Pos} {tb : WX → TS} {ts : Addr → TS}
theorem ps_try_keep (hs : X.stack = X.env :: X.outer) (hf : X.env.frame = some X.env.locals) (hex : X.ex = []) (hN : X.N.Nodup) (hi : X.N[i]? = some n) (hln : X.env.kindOf n = some .local) (hc : Names X x c)
    (hb : ∀ (W : WX) (pn : List (Addr × Obj)) (xe : Value → Shared → Prop), Takes (X.tr pn xe) W → PassesOwn (model X.prog X.w) X.A X.env xe → PSs (X.tr pn xe) body (tb W))
    (hsu : ∀ (a : Addr) (oe : Obj) (pn : List (Addr × Obj)), PSs (X.suite a ((a, oe) :: pn)) (b0 :: suite) (ts a)) :
    PS X (.Try body [.ExceptHandler (some (.Name x np)) (some n) (b0 :: suite) pos'] [] [] pos) (tTry X.K c i ts tb) := by
  constructor
  intro pins s σ H Dd I h
  have ok := I.ok
  have hfr : X.A.frames = some (X.env :: X.outer) := by rw [ok.frames, hs]
  apply wpAny_Try_except
  let xq : Value → Shared → Prop := fun e s₁ => wpAny (model X.prog X.w) X.A (noteFrame e X.env) (fun _ s₂ => wpAny (model X.prog X.w) X.A (setFlight e none) (fun _ s₃ =>
    wpAny (model X.prog X.w) X.A (handleBy e X.env [.ExceptHandler (some (.Name x np)) (some n) (b0 :: suite) pos']) (SP X pins Dd) X.xe s₃) X.xe s₂) X.xe s₁
  have caught : Takes (X.tr (X.pn ++ pins) xq) (wKeep X.K c i ts Dd) := by
    intro u s' xx
    obtain ⟨a, B, sI, pins', σ', H', cls, d, hu, J', nb, up, sky, na, os, ag, C, dx, hcls, hd, hm, hgo⟩ := xx
    subst hu hcls hd
    have J : L2.Inv X pins σ' H' sI := J'.ofTry ok
    have sky2 : Sky B (X.env :: X.outer) a (Zc (.ref C) (some dx)) X.env.locals s'.heap := by
      rw [← hs]
      exact sky
    show wpAny (model X.prog X.w) X.A (noteFrame (.ref a) X.env) _ _ _
    apply Sky.land Zc.steady hfr hf sky2
    intro h3 fl3 up3
    have J3 : L2.Inv X pins σ' H' { s' with heap := h3 } := J.landed nb fl3.1 (up.trans up3) os ag
    obtain ⟨o3, v3, he3, hz3, hd3⟩ := fl3.there
    have nfr : a ∉ frs (X.env :: X.outer) := fun hm => by
      obtain ⟨_, o', e', hnf⟩ := fl3.2.2.1.mem hm
      rw [he3] at e'
      cases e'
      exact hnf _ hd3
    have nL : a ≠ X.env.locals := fun z => nfr (List.mem_filterMap.mpr ⟨X.env, List.mem_cons_self, by rw [hf, z]⟩)
    have nF : a ∉ X.fs := fun hm => by
      obtain ⟨e, he, q⟩ := List.mem_filterMap.mp hm
      exact nfr (List.mem_filterMap.mpr ⟨e, List.mem_cons_of_mem _ he, q⟩)
    -- the error is younger than the state it flew from
    have young : sI.heap.get? a = none := by
      cases e : sI.heap.get? a with
      | none => rfl
      | some o =>
        have q := nb a o e (by show a ∉ frs X.stack; rw [hs]; exact nfr)
        have q2 : B.get? a = none := fl3.2.1
        rw [q2] at q
        cases q
    have y0 : X.s_0.heap.get? a = none := by
      cases e : X.s_0.heap.get? a with
      | none => rfl
      | some o =>
        obtain ⟨o', q⟩ := J.base.there a o e (by rw [hex]; exact List.not_mem_nil)
        rw [young] at q
        cases q
    have yc : ∀ x c, X.env.cells.lookup x = some c → c ≠ a := fun y cc e z => by
      obtain ⟨v, o, q, _⟩ := J.cell y cc e
      rw [z, young] at q
      cases q
    have yp : ∀ p ∈ X.pn ++ pins, p.1 ≠ a := fun p hp z => by
      have q := (J.pin p hp).1
      rw [z, young] at q
      cases q
    have S3 := J3.suite he3 hd3 na nL nF
    refine wpAny_handleBy_cons (codeAny_handlers_test ?_) (by intro q; cases q)
    have LT : PySem.W.Looks (model X.prog X.w) h3 (typeOf (.ref a)) (.ref C) := fun A Q E s k q => wpAny_typeOf_ref (k _ _ he3) (by rw [hz3.1]; exact q)
    have LM := PySem.W.exm_one (M := model X.prog X.w) (J3.kIn) LT hm
    have test : ∀ {Q : Value → Shared → Prop} {E : Value → Shared → Prop}, Q c { s' with heap := h3 } → wpAny (model X.prog X.w) (X.A.mark (some (.ref a))) (eval (.Name x np) X.env) Q E { s' with heap := h3 } := by
      intro Q E q
      rcases hc with ⟨hg, hdbg, hm1 | ⟨hm1, hv, hnn⟩⟩
      · exact ld_glob (X := X.suite a ((a, o3) :: (X.pn ++ pins))) S3 hg hm1 q hdbg
      · exact ld_blt (X := X.suite a ((a, o3) :: (X.pn ++ pins))) S3 hg hm1 hv q hnn hdbg
    refine test (LM.here ?_)
    refine codeAny_handlers_suite_as (HandSPX.lands_againZ fl3 fun h4 fl4 up4 => ?_)
    have J4 : L2.Inv X pins σ' H' { s' with heap := h4 } := J.landed nb fl4.1 ((up.trans up3).trans up4) os ag
    obtain ⟨o4, v4, he4, hz4, hd4⟩ := fl4.there
    have S4 := J4.suite he4 hd4 na nL nF
    refine store_ok (X := X.suite a ((a, o4) :: (X.pn ++ pins))) (v := .ref a) S4 hN hi (.inl hln) rfl (fun s5 S5 => ?_) (.inr hln)
    refine wpAny_mono ((hsu a o4 (X.pn ++ pins)).run [] s5 _ H' _ S5 (hgo a na)) (fun f s6 hsp => ?_) (fun _ _ z => False.elim z)
    have fin : ∀ {σ6 : L2.St} {H6 : Hp} {Q : Shared → Prop}, L2.Inv (X.suite a ((a, o4) :: (X.pn ++ pins))) [] σ6 H6 s6 → (∀ s7, H6 a = none → L2.Inv X pins (σ6.set i none) (upd H6 a (ExT a C dx)) s7 → Q s7) →
        wpAny (model X.prog X.w) X.A (do bindName X.env n .none; unbindBehindTheSuite X.env n pos') (fun _ s7 => Q s7) X.xe s6 := by
      intro σ6 H6 Q S6 hq
      obtain ⟨ga, gn, _⟩ := S6.pin (a, o4) (List.mem_append_left _ List.mem_cons_self)
      have T := inv_track (S6.unsuite ok) gn y0 nL yc yp (o := ExT a C dx) ⟨⟨o4, v4, ga, hz4.1, hz4.2, hd4⟩, ⟨o4, ga⟩, fun h1 h2 ⟨o, v, e, r⟩ k => ⟨o, v, k o e, r⟩⟩
      exact gone_ok T hN hi hln fun s7 J7 => hq s7 gn J7
    cases f with
    | next =>
      obtain ⟨σ6, H6, S6, q6⟩ := hsp
      exact fin S6 fun s7 g J7 => ⟨_, _, J7, q6 g⟩
    | brk =>
      obtain ⟨σ6, H6, S6, q6⟩ := hsp
      exact q6.elim
    | cont =>
      obtain ⟨σ6, H6, S6, q6⟩ := hsp
      exact q6.elim
    | ret u =>
      obtain ⟨v6, σ6, H6, S6, r6, q6⟩ := hsp
      exact fin S6 fun s7 g J7 => ⟨_, _, _, J7, r6, q6 g⟩
  refine wpAny_mono ((hb _ (X.pn ++ pins) xq caught PassesOwn.looking).run [] s σ H Dd (I.toTry _) h) (fun f s1 hsp => ?_) (fun e s1 he => he)
  rcases f with _ | _ | _ | u
  · obtain ⟨σ', H', J', q⟩ := hsp
    exact wpAny_execs_nil ⟨σ', H', J'.ofTry ok, q⟩
  · obtain ⟨σ', H', J', q⟩ := hsp
    exact ⟨σ', H', J'.ofTry ok, q⟩
  · obtain ⟨σ', H', J', q⟩ := hsp
    exact ⟨σ', H', J'.ofTry ok, q⟩
  · obtain ⟨v, σ', H', J', r, q⟩ := hsp
    exact ⟨v, σ', H', J'.ofTry ok, r, q⟩
end
/-- what the written part says of an own error's class -/
structure ExcK (K : PySem.W.Frag) (C : Addr) : Prop where
  ox : OexC K C
  nv : PySem.W.findIn K (.ref C) "value" = some none
  ga : PySem.W.findIn K (.ref C) "__getattribute__" = some (some (.builtin "BaseException.__getattribute__"))
  gg : PySem.W.findIn K (.ref C) "__getattr__" = some none
  hd : PySem.W.hasDictIn K C = true
  ha : PySem.W.findIn K (.ref C) "__class__" = some (some (.builtin "object.__class__"))
  hm : PySem.W.mroIn K C (.type "object") = some true
/-- what it says of the getter of classes -/
structure ClsG (K : PySem.W.Frag) : Prop where
  hn : PySem.W.specialIn K (.builtin "object.__class__") "__get__" = some (some (.builtin "getset_descriptor.__get__"))
  ht : PySem.W.takesIn K (.builtin "object.__class__") = some true
section
variable {X : Cx} {H : Hp} {a C : Addr}
theorem ext_at {s : Shared} {pins : List (Addr × Obj)} {σ : L2.St} {dx : Addr} (I : L2.Inv X pins σ H s) (h : H a = some (ExT a C dx)) : ∃ (oe : Obj) (vs : Array Value), s.heap.get? a = some oe ∧ oe.cls = .ref C ∧ oe.dict = some dx ∧ oe.data = .fields vs := (I.hok a _ h).1
/-- e.value -/
def tXv (K : PySem.W.Frag) (te : TE) : TE := fun σ H Q => te σ H fun x H1 => ∃ (a C dx : Addr) (v : V), x = .ref a ∧ H1 a = some (ExT a C dx) ∧ ExcK K C ∧ H1 dx = some (.xd [(("value" : Str), v)]) ∧ Q v H1
theorem pe_xv {e : Expr} {te : TE} {pos : Pos} (he : PE X e te) (hb : attributeBase e "value" X.env (eval e X.env) = eval e X.env := by rfl) : PE X (.Attribute e "value" pos) (tXv X.K te) := by
  constructor
  intro pins s σ H Q I h
  refine attr_of hb (thn (he.run pins s σ H _ I h) fun u s1 hh => ?_)
  obtain ⟨x, H1, I1, rx, a, C, dx, v, ex, ea, T, ed, q⟩ := hh
  subst ex
  obtain rfl : u = Value.ref a := rx
  obtain ⟨oe, vs, h1, h2, h3, h4⟩ := ext_at I1 ea
  have hx : ObjOk X.prog X.w H1 s1.heap dx (.xd [(("value" : Str), v)]) := I1.hok dx _ ed
  obtain ⟨mA, hns, hr⟩ := hx
  obtain ⟨od, ho, hl⟩ := lookIn_ns hns
  obtain ⟨u, hu, ru⟩ := RelO.some_of (v := v) (o := mA "value") (by
    have q := hr "value"
    simpa [List.lookup] using q)
  have J : PySem.W.InstAt s1.heap a oe C (some od) := ⟨h1, h2, by unfold PySem.W.notCls; rw [h4] <;> rfl, by rw [h3]; exact ho⟩
  exact HandSPX.exc_get I1.kIn J T.ga T.gg T.ox.exC (PySem.W.findObj_own T.hd T.nv rfl (by rw [hl, hu])) (handed_of ru) ⟨v, H1, I1.tok _, ru, q⟩
/-- isinstance(e, c), isinstance(e, (c, ..)) of an own error -/
def rIsX (K : PySem.W.Frag) : List V → Hp → VK → Prop := fun xs H Q => ∃ (a D dx : Addr) (c : V) (u : Value) (b : Bool), xs = [.ref a, c] ∧ H a = some (ExT a D dx) ∧ (∃ fs, H dx = some (.xd fs)) ∧ ExcK K D ∧ ClsG K ∧ ClsV c u ∧ PySem.W.kitOne K (.ref D) u = some b ∧ Q (.bl b) H
def rIsXT (K : PySem.W.Frag) : List V → Hp → VK → Prop := fun xs H Q => ∃ (a D dx tp : Addr) (cs : List V) (us : List Value) (b : Bool), xs = [.ref a, .ref tp] ∧ H a = some (ExT a D dx) ∧ (∃ fs, H dx = some (.xd fs)) ∧ ExcK K D ∧ ClsG K ∧ H tp = some (.tup cs) ∧ Paired ClsV cs us ∧ PySem.W.kitAny K (.ref D) us = some b ∧ Q (.bl b) H
theorem inst_ex {s : Shared} {pins : List (Addr × Obj)} {σ : L2.St} {D dx : Addr} (I : L2.Inv X pins σ H s) (h : H a = some (ExT a D dx)) (hd : ∃ fs, H dx = some (.xd fs)) : ∃ (oe od : Obj), PySem.W.InstAt s.heap a oe D (some od) := by
  obtain ⟨oe, vs, h1, h2, h3, h4⟩ := ext_at I h
  obtain ⟨fs, hd⟩ := hd
  have hx : ObjOk X.prog X.w H s.heap dx (.xd fs) := I.hok dx _ hd
  obtain ⟨mA, hns, hr⟩ := hx
  obtain ⟨od, ho, hl⟩ := lookIn_ns hns
  exact ⟨oe, od, h1, h2, by unfold PySem.W.notCls; rw [h4] <;> rfl, by rw [h3]; exact ho⟩
theorem call_isX : CallR X (.builtin "isinstance") (rIsX X.K) := by
  intro pins s σ H xs us Q I r h
  obtain ⟨a, D, dx, c, u, b, rfl, ha, hd, T, G, k, e, q⟩ := h
  obtain ⟨u1, u2, rfl, r1, r2⟩ := vals2 r
  have e2 := k.eq r2
  subst e2
  obtain rfl : u1 = Value.ref a := r1
  obtain ⟨oe, od, J⟩ := inst_ex I ha hd
  have hcl : (PySem.W.clsIn X.K D).isSome = true := by
    obtain ⟨cd, hc, _⟩ := PySem.W.any_some T.hd
    rw [hc]; rfl
  exact PySem.W.kia_one (PySem.W.kitx_exc hcl T.ga T.gg T.ox.exC T.ha G.hn G.ht T.hm) I.kIn J e (fun z => nomatch z) fun tk => ⟨.bl b, H, I.tok tk, rfl, q⟩
theorem call_isXT : CallR X (.builtin "isinstance") (rIsXT X.K) := by
  intro pins s σ H xs us Q I r h
  obtain ⟨a, D, dx, tp, cs, ws, b, rfl, ha, hd, T, G, hT, k, e, q⟩ := h
  obtain ⟨u1, u2, rfl, r1, r2⟩ := vals2 r
  obtain rfl : u1 = Value.ref a := r1
  obtain rfl : u2 = Value.ref tp := r2
  obtain ⟨oe, od, J⟩ := inst_ex I ha hd
  have hcl : (PySem.W.clsIn X.K D).isSome = true := by
    obtain ⟨cd, hc, _⟩ := PySem.W.any_some T.hd
    rw [hc]; rfl
  obtain ⟨_, its, rv, o, h1, h2, n, h3⟩ := (show ObjOk X.prog X.w H s.heap tp (.tup cs) from I.hok tp _ hT)
  have e3 := ClsV.all k rv
  subst e3
  obtain ⟨oc, od', dt, sl⟩ := o
  simp only at h2 h3
  subst h2 h3
  exact PySem.W.kia_tup (PySem.W.kitx_exc hcl T.ga T.gg T.ox.exC T.ha G.hn G.ht T.hm) I.kIn J h1 e (fun z => nomatch z) fun tk => ⟨.bl b, H, I.tok tk, rfl, q⟩
theorem call_or {f : Value} {r r' : List V → Hp → VK → Prop} (a : CallR X f r) (b : CallR X f r') : CallR X f (fun xs H Q => r xs H Q ∨ r' xs H Q) := fun pins s σ H xs us Q I rx h => by
  rcases h with h | h
  · exact a pins s σ H xs us Q I rx h
  · exact b pins s σ H xs us Q I rx h
/-- isinstance -/
abbrev rIsU (K : PySem.W.Frag) : List V → Hp → VK → Prop := fun xs H Q => (rIsi K xs H Q ∨ rIsiT K xs H Q) ∨ (rIsX K xs H Q ∨ rIsXT K xs H Q)
theorem call_isU : CallR X (.builtin "isinstance") (rIsU X.K) := call_or (call_or call_isi call_isiT) (call_or call_isX call_isXT)
end
/-! ### over data -/
/-- the type of plain data -/
def tyD : D → Option String
  | .non => some "NoneType" | .bl _ => some "bool" | .int _ => some "int" | .str _ => some "str"
  | .tup _ => some "tuple" | .lst _ => some "list" | .frz _ => some "list" | .dct _ _ => some "dict"
  | _ => none
/-- the type of data, what may change with it -/
def tyM (μ : Mu) : D → Option String
  | .at a => match μ a with
    | some (.lst _) => some "list"
    | some (.dct _ _) => some "dict"
    | _ => none
  | d => tyD d
section
variable {K : PySem.W.Frag} {W : WX} {X : XD} {μ μ' : Mu} {H H' : Hp} {ρ : Ro} {E : ED} {ta tb te tx tl : TE} {Φ : DP} {x y : D}
theorem den_ty {T : String} {v : V} (m : Mem K μ H) (h : Den K μ H x v) (ht : tyM μ x = some T) : TyX K H v (.type T) := by
  cases x <;> unfold Den at h <;> unfold tyM at ht <;> try unfold tyD at ht
  case non => cases ht; subst h; exact .base .non
  case bl => cases ht; subst h; exact .base (.bl _)
  case int => cases ht; subst h; exact .base (.int _)
  case str => cases ht; subst h; exact .base (.str _)
  case tup =>
    cases ht
    obtain ⟨p, vs, e, s, _⟩ := h
    subst e
    rcases s with ⟨_, s | ⟨o, s⟩⟩ | ⟨o, its, n, h1, h2, _⟩
    · exact .base (.tup s)
    · exact .fTuple s
    · exact .kTuple h1 h2
  case lst =>
    cases ht
    obtain ⟨p, vs, e, s, _⟩ := h
    subst e
    exact .base (.lst s.2)
  case frz =>
    cases ht
    obtain ⟨p, vs, e, s, _⟩ := h
    subst e
    rcases s with ⟨_, s | ⟨o, s⟩⟩ | ⟨o, its, n, h1, h2, _⟩
    · exact .base (.lst s)
    · exact .base (.frz s)
    · exact .kList h1 h2
  case dct =>
    cases ht
    obtain ⟨p, vs, e, s, _⟩ := h
    subst e
    exact .base (.dK s.2)
  case «at» a =>
    subst h
    dsimp only at ht
    cases q : μ a with
    | none => rw [q] at ht; cases ht
    | some o =>
      rw [q] at ht
      have hm := m a o q
      cases o with
      | lst ds => cases ht; obtain ⟨vs, e, _⟩ := hm; exact .base (.lst e)
      | dct ks ds => cases ht; obtain ⟨vs, e, _⟩ := hm; exact .base (.dK e)
      | obj C fs ds => cases ht
  all_goals (cases ht)
/-- isinstance of plain data, a built-in class -/
theorem cax_is {T c : String} {b : Bool} (ht : tyM μ x = some T) (hk : kitB T c = some b) (h : Φ μ (.bl b)) : CaX K (rIsU K) μ [x, .ty c] Φ := fun H vs Q m d k => by
  obtain ⟨v, v', e, a, a'⟩ := denL2 d
  unfold Den at a'
  subst a'
  exact .inl (.inl ⟨v, .ty c, .type T, .type c, b, e, .ty c, den_ty m a ht, kit_ty hk, k μ _ _ H h (Grow.refl _ _) m (by unfold Den; rfl)⟩)
/-- .. of one of some built-in classes -/
def kitBs (T : String) : List String → Option Bool
  | [] => some false
  | c :: cs => match kitB T c with
    | some true => some true
    | some false => kitBs T cs
    | none => none
theorem kitBs_ok {T : String} : ∀ {cs : List String} {b : Bool}, kitBs T cs = some b → PySem.W.kitAny K (.type T) (cs.map Value.type) = some b
  | [], b, h => h
  | c :: cs, b, h => by
    unfold kitBs at h
    show (match PySem.W.kitOne K (.type T) (.type c) with | some true => some true | some false => PySem.W.kitAny K (.type T) (cs.map Value.type) | none => none) = some b
    cases q : kitB T c with
    | none => rw [q] at h; cases h
    | some r =>
      rw [q] at h
      rw [kit_ty q]
      cases r with
      | true => exact h
      | false => exact kitBs_ok h
theorem denL_tys : ∀ {cs : List String} {vs : List V}, DenL K μ H (cs.map D.ty) vs → Paired ClsV vs (cs.map Value.type)
  | [], vs, h => by
    have h' : DenL K μ H [] vs := h
    unfold DenL at h'; subst h'; exact .nil
  | c :: cs, vs, h => by
    have h' : DenL K μ H (.ty c :: cs.map D.ty) vs := h
    unfold DenL at h'
    obtain ⟨w, ws, e, a, b⟩ := h'
    unfold Den at a
    subst e a
    exact .cons (.ty c) (denL_tys b)
theorem stT_own {p : Addr} {vs : List V} {o : Obj} (h : StT K μ H p vs) (hu : H p = some (.tup vs)) : True := True.intro
theorem cax_isT {T : String} {cs : List String} {b : Bool} (ht : tyM μ x = some T) (hk : kitBs T cs = some b) (h : Φ μ (.bl b)) {vs : List V} {Q : VK} {p : Addr} {us : List V} (m : Mem K μ H) {v : V} (hv : Den K μ H x v) (hp : H p = some (.tup us)) (hu : DenL K μ H (cs.map D.ty) us)
    (k : ∀ μ' d u H', Φ μ' d → Grow μ H μ' H' → Mem K μ' H' → Den K μ' H' d u → Q u H') : rIsU K [v, .ref p] H Q :=
  .inl (.inr ⟨v, p, us, .type T, cs.map Value.type, b, rfl, hp, denL_tys hu, den_ty m hv ht, kitBs_ok hk, k μ _ _ H h (Grow.refl _ _) m (by unfold Den; rfl)⟩)
/-- isinstance(e, (A, B, ..)), the tuple written -/
theorem evx_isT {tr : TA} {cs : List String} (hr : ∀ (μ1 : Mu) (Ψ : Mu → List D → Prop), Ψ μ1 (cs.map D.ty) → EvL K W X μ1 ρ tr Ψ) (hc : cs.length ≤ 1000) (h : EvX K W X μ ρ te fun μ1 d => ∃ T b, tyM μ1 d = some T ∧ kitBs T cs = some b ∧ Φ μ1 (.bl b)) :
    EvX K W X μ ρ (tCB (rIsU K) (tCons te (tCons (tTup tr) tNil))) Φ := fun σ H Q m e l k =>
  h σ H _ m e l fun μ1 d v H1 ⟨T, b, ht, hk, hp⟩ g1 m1 d1 => hr μ1 (fun μ2 ds => μ2 = μ1 ∧ ds = cs.map D.ty) ⟨rfl, rfl⟩ σ H1 _ m1 (e.grow g1) (l.grow g1) fun μ2 ds us H2 ⟨e1, e2⟩ g2 m2 d2 => by
    subst e1 e2
    refine ⟨by rw [← d2.length, List.length_map]; exact Nat.le_trans hc (by decide), fun p hp2 => ?_⟩
    have gn : Grow μ2 H2 μ2 (upd H2 p (.tup us)) := Grow.new hp2
    exact cax_isT ht hk hp (vs := []) (m2.new hp2) (Den.grow gn _ _ (Den.grow g2 _ _ d1)) upd_same (DenL.grow gn _ _ d2) fun μ' d' u H' p' g' => k μ' d' u H' p' (((g1.trans g2).trans gn).trans g')
/-! ### own errors -/
theorem evx_xv (h : EvX K W X μ ρ te fun μ1 x => ∃ C d, x = .exc C d ∧ ExcK K C ∧ Φ μ1 d) : EvX K W X μ ρ (tXv K te) Φ := fun σ H Q m e l k =>
  h σ H _ m e l fun μ1 x v H1 ⟨C, d, e1, T, hp⟩ g1 m1 d1 => by
    subst e1
    unfold Den at d1
    obtain ⟨p, dx, w, e2, s, t, b⟩ := d1
    exact ⟨p, C, dx, w, e2, s.2, T, t.2, k μ1 d w H1 hp g1 m1 b⟩
theorem cax_isX {C c : Addr} {d : D} {b : Bool} (T : ExcK K C) (G : ClsG K) (hk : PySem.W.kitOne K (.ref C) (.ref c) = some b) (h : Φ μ (.bl b)) : CaX K (rIsU K) μ [.exc C d, .at c] Φ := fun H vs Q m dd k => by
  obtain ⟨v, v', e, a, a'⟩ := denL2 dd
  unfold Den at a a'
  obtain ⟨p, dx, w, e2, s, t, _⟩ := a
  subst a' e2
  exact .inr (.inl ⟨p, C, dx, .ref c, .ref c, b, e, s.2, ⟨_, t.2⟩, T, G, .own c, hk, k μ _ _ H h (Grow.refl _ _) m (by unfold Den; rfl)⟩)
theorem cax_isXB {C : Addr} {c : String} {d : D} {b : Bool} (T : ExcK K C) (G : ClsG K) (hk : PySem.W.kitOne K (.ref C) (.type c) = some b) (h : Φ μ (.bl b)) : CaX K (rIsU K) μ [.exc C d, .ty c] Φ := fun H vs Q m dd k => by
  obtain ⟨v, v', e, a, a'⟩ := denL2 dd
  unfold Den at a a'
  obtain ⟨p, dx, w, e2, s, t, _⟩ := a
  subst a' e2
  exact .inr (.inl ⟨p, C, dx, .ty c, .type c, b, e, s.2, ⟨_, t.2⟩, T, G, .ty c, hk, k μ _ _ H h (Grow.refl _ _) m (by unfold Den; rfl)⟩)
theorem denL_ats : ∀ {cs : List Addr} {vs : List V}, DenL K μ H (cs.map D.at) vs → Paired ClsV vs (cs.map Value.ref)
  | [], vs, h => by
    have h' : DenL K μ H [] vs := h
    unfold DenL at h'; subst h'; exact .nil
  | c :: cs, vs, h => by
    have h' : DenL K μ H (.at c :: cs.map D.at) vs := h
    unfold DenL at h'
    obtain ⟨w, ws, e, a, b⟩ := h'
    unfold Den at a
    subst e a
    exact .cons (.own c) (denL_ats b)
theorem evx_isXT {tr : TA} {cs : List Addr} (G : ClsG K) (hr : ∀ (μ1 : Mu) (Ψ : Mu → List D → Prop), Ψ μ1 (cs.map D.at) → EvL K W X μ1 ρ tr Ψ) (hc : cs.length ≤ 1000) (h : EvX K W X μ ρ te fun μ1 x => ∃ C d b, x = .exc C d ∧ ExcK K C ∧ PySem.W.kitAny K (.ref C) (cs.map Value.ref) = some b ∧ Φ μ1 (.bl b)) :
    EvX K W X μ ρ (tCB (rIsU K) (tCons te (tCons (tTup tr) tNil))) Φ := fun σ H Q m e l k =>
  h σ H _ m e l fun μ1 x v H1 ⟨C, d, b, e0, T, hk, hp⟩ g1 m1 d1 => hr μ1 (fun μ2 ds => μ2 = μ1 ∧ ds = cs.map D.at) ⟨rfl, rfl⟩ σ H1 _ m1 (e.grow g1) (l.grow g1) fun μ2 ds us H2 ⟨e1, e2⟩ g2 m2 d2 => by
    subst e0 e1 e2
    refine ⟨by rw [← d2.length, List.length_map]; exact Nat.le_trans hc (by decide), fun p hp2 => ?_⟩
    have gn : Grow μ2 H2 μ2 (upd H2 p (.tup us)) := Grow.new hp2
    have dd := Den.grow gn _ _ (Den.grow g2 _ _ d1)
    unfold Den at dd
    obtain ⟨q, dx, w, e3, s, t, _⟩ := dd
    subst e3
    exact .inr (.inr ⟨q, C, dx, p, us, _, b, rfl, s.2, ⟨_, t.2⟩, T, G, upd_same, denL_ats (DenL.grow gn _ _ d2), hk, k μ2 _ _ _ hp ((g1.trans g2).trans gn) (m2.new hp2) (by unfold Den; rfl)⟩)
/-- try: body, except c as n: m = n -/
theorem gs_try {tb : WX → TS} {c : Value} {i j : Nat} (hij : i ≠ j)
    (h : ∀ W', GS K W' (fun μ' ρ' C d => PySem.W.exmOne K (.ref C) c = some true ∧ i < ρ'.length ∧ E.nx μ' ((ρ'.set j (some (.exc C d))).set i none)) μ ρ (tb W') E) :
    GS K W X μ ρ (tTry K c i (fun _ => tAsg (tVar i) (gName j)) tb) E := fun σ H Dd m e l k => by
  refine h _ σ H Dd m e ?_ k
  rintro μ' ρ' C d dx v σ' H' ⟨hm, hi, hx⟩ gr mm ee hdx hd dd
  refine ⟨C, dx, rfl, rfl, hm, fun a ha => ?_⟩
  have hl : i < σ'.length := by rw [ee.1]; exact hi
  refine ⟨.ref a, List.getElem?_set_self hl, fun ha' => ?_⟩
  have gn : Grow μ' H' μ' (upd H' a (ExT a C dx)) := Grow.new ha
  have ne : dx ≠ a := ne_of_none hd ha
  refine k.nx _ _ _ _ hx (gr.trans gn) (mm.new ha) ?_
  have e1 : ((σ'.set i (some (.ref a))).set j (some (.ref a))).set i none = (σ'.set j (some (.ref a))).set i none := by
    rw [List.set_comm _ _ hij, List.set_set]
  rw [e1]
  refine ((ee.grow gn).set ?_ j).unset i
  unfold Den
  exact ⟨a, dx, v, rfl, ⟨mm.free ha, upd_same⟩, ⟨hdx, by rw [upd_ne ne]; exact hd⟩, Den.grow gn _ _ dd⟩
theorem kit_self {a : Addr} : PySem.W.kitOne K (.ref a) (.ref a) = some true := by
  unfold PySem.W.kitOne
  rw [if_pos (by simp)]
end
section
variable {X : Cx} {CX : CXT} {k : Nat} {f C : Addr} {fd : FuncData} {ps ks : List Str} {sp : Sp} {E : XK} {x m : Str} {p pos apos kpos : Pos} {kws : List Keyword} {tk : TA} {g : List Value → List Value → List Value} {gV : List V → List V → List V}
/-- f(k = v, ..), no place given -/
theorem pe_callK0 (F : FnOk X.prog X.w X.K X.mg X.base CX k f fd ps sp) (hr : Room k X.A) (hg : Gl X x) (hm : X.mg x = some (.ref f)) (hk : PySem.W.keepIn X.K (.ref f) = true) (hb : KBinds X.K fd ps ks g gV) (hx : Passes CX X E)
    (hkw : PK X kws tk) (hall : (backToKw pos (keywordEach kws X.env)).all (·.1.isSome) = true := by rfl) (hks : (backToKw pos (keywordEach kws X.env)).filterMap (·.1) = ks := by rfl)
    (hdb : (x == ("__debug__" : Str)) = false := by decide) (hn : ((backTo pos (starEach [] X.env)).any (·.1) || (backToKw pos (keywordEach kws X.env)).any (·.1.isNone)) = false := by rfl) :
    PE X (.Call (.Name x p) [] kws pos) (tCallK sp gV E tNil tk) := by
  constructor
  intro pins s σ H Q I h
  apply wpAny_Call_Name_kw (ld_glob I hg hm ?_ hdb)
  refine PySem.W.callWith_KW0 (h₀ := X.base) I.ok.mod.kin hk hall ?_ hn
  refine thn (hkw.run pos pins s σ H _ I h) fun ws s2 hh => ?_
  obtain ⟨zs, H2, I2, rz, q2⟩ := hh
  refine ⟨I2.kIn, ?_⟩
  rw [hks]
  exact run_fnk F hr hb hx I2 .nil rz q2
end
/-- the data in the parameters' order: the places of n given ones and m named ones -/
def permG {α : Type} (n m : Nat) (pm : List Nat) (us ws : List α) : List α := if us.length = n ∧ ws.length = m then pm.filterMap fun i => (us ++ ws)[i]? else []
theorem perm_vals : ∀ {pm : List Nat} {vs : List V} {us : List Value}, Vals vs us → Vals (pm.filterMap fun i => vs[i]?) (pm.filterMap fun i => us[i]?)
  | [], _, _, _ => .nil
  | i :: pm, vs, us, h => by
    rw [List.filterMap_cons, List.filterMap_cons]
    cases e : vs[i]? with
    | none =>
      rw [h.none_of e]
      exact perm_vals h
    | some v =>
      obtain ⟨u, h1, h2⟩ := h.get e
      rw [h1]
      exact .cons h2 (perm_vals h)
theorem perm_den {K : PySem.W.Frag} {μ : Mu} {H : Hp} : ∀ {pm : List Nat} {ds : List D} {vs : List V}, DenL K μ H ds vs → DenL K μ H (pm.filterMap fun i => ds[i]?) (pm.filterMap fun i => vs[i]?)
  | [], _, _, _ => DenL.nil
  | i :: pm, ds, vs, h => by
    rw [List.filterMap_cons, List.filterMap_cons]
    cases e : ds[i]? with
    | none =>
      have : vs[i]? = none := by
        rw [List.getElem?_eq_none_iff] at e ⊢
        rw [← h.length]; exact e
      rw [this]
      exact perm_den h
    | some d =>
      obtain ⟨v, h1, h2⟩ := h.get e
      rw [h1]
      exact DenL.cons h2 (perm_den h)
/-- a def of the module that keeps its promise, with all that a call of it asks -/
structure Cal (P : Program) (w : World) (K : PySem.W.Frag) (mg : Str → Option Value) (base : Heap) (CX : CXT) (k : Nat) (x : Str) (st : Stmt) (ps : List Str) (sp : Sp) : Prop where
  ex : ∃ (f : Addr) (fd : FuncData), mg x = some (.ref f) ∧ Fun K x x st f fd ∧ FnOk P w K mg base CX k f fd ps sp ∧ Binds K fd ps []
def Std (K : PySem.W.Frag) (mg : Str → Option Value) (x : Str) (st : Stmt) : Prop := ∃ (f : Addr) (fd : FuncData), mg x = some (.ref f) ∧ Fun K x x st f fd
section
variable {P : Program} {w : World} {K : PySem.W.Frag} {mg : Str → Option Value} {base : Heap} {x : Str} {st : Stmt} {N ps : List Str} {k : Nat}
theorem cal0 {Pd : PD} (h : Std K mg x st) (S : FnScope N ps (defScope st))
    (hbi : ∀ (kV doc pm : Value) (an : Option Addr) (cdv ct : Value) (us : List Value), us.length = ps.length → bindArgs (PySem.W.fnOf x x (defArgs st) (defBody st) (defScope st) .none kV doc pm an cdv ct) ⟨us, []⟩ = pure (ps.zip us))
    (hb : ∀ (f : Addr) (cdv : Value) (A : Around) (outer : List Env) (s : Shared) (H : Hp) (E : XK), Room k (A.deeper (envOfC x (defScope st) s.heap.objs.size f cdv)) →
      ∃ t, PSs (cxOf CX0 P w K mg base N x (defScope st) f cdv A outer s H E).nox (defBody st) t ∧ ∀ μ ds post exc, ds.length = ps.length → Pd μ ds post exc → GS K WN XN μ (startD N ds) t { nx := fun m _ => post m .non, rt := post }) :
    Cal P w K mg base CX0 (k + 1) x st ps (spD K ps.length Pd) := by
  obtain ⟨f, fd, h1, F⟩ := h
  exact ⟨f, fd, h1, F, def_ok F S (hb f), F.binds hbi⟩
theorem calX {Pd : PD} (h : Std K mg x st) (S : FnScope N ps (defScope st))
    (hbi : ∀ (kV doc pm : Value) (an : Option Addr) (cdv ct : Value) (us : List Value), us.length = ps.length → bindArgs (PySem.W.fnOf x x (defArgs st) (defBody st) (defScope st) .none kV doc pm an cdv ct) ⟨us, []⟩ = pure (ps.zip us))
    (hb : ∀ (f : Addr) (cdv : Value) (A : Around) (outer : List Env) (s : Shared) (H : Hp) (E : XK), Room k (A.deeper (envOfC x (defScope st) s.heap.objs.size f cdv)) →
      ∃ t, PSs (cxOf (L2.CX P w) P w K mg base N x (defScope st) f cdv A outer s H E) (defBody st) t ∧ ∀ μ ds post exc, ds.length = ps.length → Pd μ ds post exc → GS K (fun cls d _ H => E cls d H) (fun m _ C d => exc m C d) μ (startD N ds) t { nx := fun m _ => post m .non, rt := post }) :
    Cal P w K mg base (L2.CX P w) (k + 1) x st ps (spD K ps.length Pd) := by
  obtain ⟨f, fd, h1, F⟩ := h
  exact ⟨f, fd, h1, F, def_okX F S (hb f), F.binds hbi⟩
theorem Cal.imp {CX : CXT} {n : Nat} {P1 P2 : PD} (c : Cal P w K mg base CX k x st ps (spD K n P1)) (h : ∀ μ ds post exc, P2 μ ds post exc → P1 μ ds post exc) : Cal P w K mg base CX k x st ps (spD K n P2) := by
  obtain ⟨f, fd, h1, F, G, b⟩ := c.ex
  exact ⟨f, fd, h1, F, fn_imp G h, b⟩
theorem Cal.mono {CX : CXT} {sp : Sp} {j : Nat} (c : Cal P w K mg base CX k x st ps sp) (h : k ≤ j) : Cal P w K mg base CX j x st ps sp := by
  obtain ⟨f, fd, h1, F, G, b⟩ := c.ex
  exact ⟨f, fd, h1, F, G.mono h, b⟩
theorem kb_of {f : Addr} {fd : FuncData} {n m : Nat} {pm : List Nat} {ks : List Str} (F : Fun K x x st f fd) (hp : ps ≠ [])
    (h : ∀ (kV doc pv : Value) (an : Option Addr) (cdv ct : Value) (us ws : List Value), us.length = n → ws.length = m → bindArgs (PySem.W.fnOf x x (defArgs st) (defBody st) (defScope st) .none kV doc pv an cdv ct) ⟨us, ks.zip ws⟩ = pure (ps.zip (pm.filterMap fun i => (us ++ ws)[i]?))) :
    KBinds K fd ps ks (permG n m pm) (permG n m pm) := by
  obtain ⟨oc, od, kV, doc, pv, an, cdv, ct, osl, rfl, lk, hcd⟩ := F.ex
  refine ⟨fun s us ws _ hl => ?_, fun {vs us zs ws} r rz => ?_⟩
  · unfold permG at hl ⊢
    by_cases c : us.length = n ∧ ws.length = m
    · rw [if_pos c] at hl ⊢
      exact .of_eq (h kV doc pv an cdv ct us ws c.1 c.2)
    · rw [if_neg c] at hl
      exact absurd (List.length_eq_zero_iff.mp hl.symm) hp
  · unfold permG
    rw [r.length, rz.length]
    by_cases c : us.length = n ∧ ws.length = m
    · rw [if_pos c, if_pos c]
      exact perm_vals (r.append rz)
    · rw [if_neg c, if_neg c]
      exact .nil
theorem permG_den {μ : Mu} {H : Hp} {n m : Nat} {pm : List Nat} {ds es : List D} {vs ws : List V} (a : DenL K μ H ds vs) (b : DenL K μ H es ws) : DenL K μ H (permG n m pm ds es) (permG n m pm vs ws) := by
  unfold permG
  rw [a.length, b.length]
  by_cases c : vs.length = n ∧ ws.length = m
  · rw [if_pos c, if_pos c]
    exact perm_den (a.append b)
  · rw [if_neg c, if_neg c]
    exact DenL.nil
end
section
variable {X : Cx} {k j : Nat} {st : Stmt} {ps ks : List Str} {sp : Sp} {x : Str} {p pos : Pos} {e : Expr} {es : List Expr} {t tk : TA} {kws : List Keyword} {n m : Nat} {pm : List Nat}
/-- a call of such a def; no error leaves it -/
theorem pe_c (c : Cal X.prog X.w X.K X.mg X.base CX0 k x st ps sp) (hr : Room j X.A) (hj : k ≤ j) (ha : PA X (e :: es) t) (hg : Gl X x := by rfl) (hdb : (x == ("__debug__" : Str)) = false := by decide)
    (he : starEach (e :: es) X.env = (false, eval e X.env) :: starEach es X.env := by rfl) (hpl : (backTo pos (starEach es X.env)).any (·.1) = false := by rfl) : PE X (.Call (.Name x p) (e :: es) [] pos) (tCall sp [] E0 t) := by
  obtain ⟨f, fd, h1, F, G, b⟩ := c.ex
  exact pe_call G (hr.mono hj) hg h1 F.kp b .nil pass0 ha hdb he hpl
theorem pe_c0 (c : Cal X.prog X.w X.K X.mg X.base CX0 k x st ps sp) (hr : Room j X.A) (hj : k ≤ j) (hg : Gl X x := by rfl) (hdb : (x == ("__debug__" : Str)) = false := by decide) : PE X (.Call (.Name x p) [] [] pos) (tCall sp [] E0 tNil) := by
  obtain ⟨f, fd, h1, F, G, b⟩ := c.ex
  have h := pe_call0 (p := p) (pos := pos) G (hr.mono hj) hg h1 F.kp b .nil (pass0 (X := X)) hdb
  exact ⟨fun pins s σ H Q I q => h.run pins s σ H Q I q⟩
theorem pe_cS {W : WX} (c : Cal X.prog X.w X.K X.mg X.base (L2.CX X.prog X.w) k x st ps sp) (hr : Room j X.A) (hj : k ≤ j) (tk : Takes X W) (ha : PA X (e :: es) t) (hg : Gl X x := by rfl) (hdb : (x == ("__debug__" : Str)) = false := by decide)
    (he : starEach (e :: es) X.env = (false, eval e X.env) :: starEach es X.env := by rfl) (hpl : (backTo pos (starEach es X.env)).any (·.1) = false := by rfl) : PE X (.Call (.Name x p) (e :: es) [] pos) (tCallS sp (WE W) t) := by
  obtain ⟨f, fd, h1, F, G, b⟩ := c.ex
  exact pe_callS G (hr.mono hj) hg h1 F.kp b (fun σ => passAt tk σ) ha hdb he hpl
theorem pe_ck (c : Cal X.prog X.w X.K X.mg X.base CX0 k x st ps sp) (hr : Room j X.A) (hj : k ≤ j) (hp : ps ≠ [])
    (h : ∀ (kV doc pv : Value) (an : Option Addr) (cdv ct : Value) (us ws : List Value), us.length = n → ws.length = m → bindArgs (PySem.W.fnOf x x (defArgs st) (defBody st) (defScope st) .none kV doc pv an cdv ct) ⟨us, ks.zip ws⟩ = pure (ps.zip (pm.filterMap fun i => (us ++ ws)[i]?)))
    (hkw : PK X kws tk) (hg : Gl X x := by rfl) (hall : (backToKw pos (keywordEach kws X.env)).all (·.1.isSome) = true := by rfl) (hks : (backToKw pos (keywordEach kws X.env)).filterMap (·.1) = ks := by rfl)
    (hdb : (x == ("__debug__" : Str)) = false := by decide) (hn : ((backTo pos (starEach [] X.env)).any (·.1) || (backToKw pos (keywordEach kws X.env)).any (·.1.isNone)) = false := by rfl) :
    PE X (.Call (.Name x p) [] kws pos) (tCallK sp (permG n m pm) E0 tNil tk) := by
  obtain ⟨f, fd, h1, F, G, b⟩ := c.ex
  exact pe_callK0 G (hr.mono hj) hg h1 F.kp (kb_of F hp h) pass0 hkw hall hks hdb hn
end
section
variable {K : PySem.W.Frag} {W : WX} {X : XD} {μ : Mu} {ρ : Ro} {Φ : DP} {n a b : Nat} {pm : List Nat} {P : PD} {tr tk : TA}
theorem evx_ck (h : EvL K W X μ ρ tr fun μ1 ds => EvL K W X μ1 ρ tk fun μ2 es => (permG a b pm ds es).length = n ∧ P μ2 (permG a b pm ds es) Φ excN) : EvX K W X μ ρ (tCallK (spD K n P) (permG a b pm) E0 tr tk) Φ :=
  evx_callK (permG a b pm) (fun _ _ _ _ _ _ p q => permG_den p q) h
end
/-! ### == of data -/
mutual
def toP : D → PyData
  | .bl b => .bool b
  | .int i => .int i
  | .str x => .str x
  | .tup ds => .tuple (toPs ds)
  | .lst ds => .list (toPs ds)
  | .frz ds => .list (toPs ds)
  | _ => .none
def toPs : List D → List PyData
  | [] => []
  | d :: ds => toP d :: toPs ds
end
mutual
def plainD : D → Bool
  | .non => true
  | .bl _ => true
  | .int _ => true
  | .str x => SeqAt.shaped (.str x)
  | .tup ds => plainDs ds
  | .lst ds => plainDs ds
  | .frz ds => plainDs ds
  | _ => false
def plainDs : List D → Bool
  | [] => true
  | d :: ds => plainD d && plainDs ds
end
def seeD (μ : Mu) : D → D
  | .at a => match μ a with
    | some (.lst ds) => .lst ds
    | _ => .at a
  | d => d
section
variable {K : PySem.W.Frag} {W : WX} {X : XD} {μ μ' : Mu} {H H' : Hp} {ρ : Ro} {E : ED} {ta tb te tx tl : TE} {Φ : DP} {x y : D}
mutual
theorem den_dp : ∀ (d : D) (v : V), Den K μ H d v → plainD d = true → Dp K H v (toP d)
  | .non, v, h, _ => by unfold Den at h; subst h; exact .non
  | .bl b, v, h, _ => by unfold Den at h; subst h; exact .bl b
  | .int i, v, h, _ => by unfold Den at h; subst h; exact .int i
  | .str x, v, h, _ => by unfold Den at h; subst h; exact .str x
  | .tup ds, v, h, p => by
    unfold Den at h
    unfold plainD at p
    obtain ⟨q, vs, e, s, b⟩ := h
    subst e
    exact .tup s.sq (den_dps ds vs b p)
  | .lst ds, v, h, p => by
    unfold Den at h
    unfold plainD at p
    obtain ⟨q, vs, e, s, b⟩ := h
    subst e
    exact .lst (SqL.of s.2) (den_dps ds vs b p)
  | .frz ds, v, h, p => by
    unfold Den at h
    unfold plainD at p
    obtain ⟨q, vs, e, s, b⟩ := h
    subst e
    exact .lst s.sq (den_dps ds vs b p)
  | .dct _ _, v, h, p => by unfold plainD at p; cases p
  | .obj _ _ _, v, h, p => by unfold plainD at p; cases p
  | .exc _ _, v, h, p => by unfold plainD at p; cases p
  | .ty _, v, h, p => by unfold plainD at p; cases p
  | .at _, v, h, p => by unfold plainD at p; cases p
theorem den_dps : ∀ (ds : List D) (vs : List V), DenL K μ H ds vs → plainDs ds = true → DpAll K H vs (toPs ds)
  | [], vs, h, _ => by unfold DenL at h; subst h; exact .nil
  | d :: ds, vs, h, p => by
    unfold DenL at h
    unfold plainDs at p
    rw [Bool.and_eq_true] at p
    obtain ⟨w, ws, e, a, b⟩ := h
    subst e
    exact .cons (den_dp d w a p.1) (den_dps ds ws b p.2)
end
theorem den_see {v : V} (m : Mem K μ H) (h : Den K μ H x v) (p : plainD (seeD μ x) = true) : Dp K H v (toP (seeD μ x)) := by
  cases x
  case «at» a =>
    unfold seeD at p ⊢
    dsimp only at p ⊢
    cases q : μ a with
    | none => rw [q] at p; cases p
    | some o =>
      rw [q] at p
      cases o with
      | lst ds =>
        unfold Den at h
        subst h
        obtain ⟨vs, e, b⟩ := m a _ q
        have p' : plainDs ds = true := p
        exact .lst (SqL.of e) (den_dps ds vs b p')
      | dct _ _ => cases p
      | obj _ _ _ => cases p
  all_goals exact den_dp _ v h p
/-- == over data -/
def eqD (x y : D) : Bool := PyData.eqv (toP x) (toP y)
theorem opx_eqD (h1 : plainD (seeD μ x) = true) (s1 : SeqAt.shaped (toP (seeD μ x)) = true) (h2 : plainD (seeD μ y) = true) (s2 : SeqAt.shaped (toP (seeD μ y)) = true) (h : Φ μ (.bl (eqD (seeD μ x) (seeD μ y)))) : OpX K (rEqD K) μ x y Φ := fun H v w Q m a b k =>
  ⟨_, _, den_see m a h1, den_see m b h2, s1, s2, k μ _ _ H h (Grow.refl _ _) m (by unfold Den; rfl)⟩
theorem opx_neD (h1 : plainD (seeD μ x) = true) (s1 : SeqAt.shaped (toP (seeD μ x)) = true) (h2 : plainD (seeD μ y) = true) (s2 : SeqAt.shaped (toP (seeD μ y)) = true) (h : Φ μ (.bl (!eqD (seeD μ x) (seeD μ y)))) : OpX K (rNeD K) μ x y Φ := fun H v w Q m a b k =>
  ⟨_, _, den_see m a h1, den_see m b h2, s1, s2, k μ _ _ H h (Grow.refl _ _) m (by unfold Den; rfl)⟩
theorem ints_plain (gs : List Int) : plainDs (gs.map D.int) = true := by
  induction gs with
  | nil => rfl
  | cons g gs ih => unfold List.map plainDs; rw [ih]; rfl
theorem ints_shaped (gs : List Int) : SeqAt.shaped (toP (.lst (gs.map D.int))) = true := by
  have h1 : ∀ l : List Int, PyData.canLayAll0 (toPs (l.map D.int)) = true := by
    intro l
    induction l with
    | nil => rfl
    | cons g gs ih =>
      show (PyData.canLay0 (.int g) && PyData.canLayAll0 (toPs (gs.map D.int))) = true
      rw [ih]; rfl
  have h2 : ∀ l : List Int, PyData.depthAll (toPs (l.map D.int)) ≤ 1 := by
    intro l
    induction l with
    | nil => exact Nat.zero_le _
    | cons g gs ih =>
      show max (PyData.depth (.int g)) (PyData.depthAll (toPs (gs.map D.int))) ≤ 1
      exact Nat.max_le.mpr ⟨by show 0 ≤ 1; decide, ih⟩
  unfold SeqAt.shaped
  rw [Bool.and_eq_true]
  refine ⟨?_, ?_⟩
  · show PyData.canLayAll0 (toPs (gs.map D.int)) = true
    exact h1 gs
  · apply decide_eq_true
    show PyData.depthAll (toPs (gs.map D.int)) + 1 ≤ 64
    have := h2 gs
    omega
/-- xs != [] of ints -/
theorem eqD_nil (gs : List Int) : eqD (.lst (gs.map D.int)) (.lst []) = gs.isEmpty := by
  cases gs with
  | nil => rfl
  | cons g gs => rfl
/-! ### more methods of lists -/
/-- o.m(e, ..) of a list that may change -/
theorem evx_bmL {to : TE} {tr : TA} {r : V → List V → Hp → VK → Prop} (h : EvX K W X μ ρ to fun μ1 o => ∃ a ds0, o = .at a ∧ μ1 a = some (.lst ds0) ∧ EvL K W X μ1 ρ tr fun μ2 es => ∃ ds, μ2 a = some (.lst ds) ∧
      ∀ H vs ws Q, Mem K μ2 H → H a = some (.lst vs) → DenL K μ2 H ds vs → DenL K μ2 H es ws → (∀ μ' d u H', Φ μ' d → Grow μ2 H μ' H' → Mem K μ' H' → Den K μ' H' d u → Q u H') → r (.ref a) ws H Q) : EvX K W X μ ρ (tBM K "list" r to tr) Φ := fun σ H Q m e l k =>
  h σ H _ m e l fun μ1 o v H1 ⟨a, ds0, e1, h0, h1⟩ g1 m1 d1 => by
    subst e1
    unfold Den at d1
    subst d1
    obtain ⟨us0, q0, b0⟩ := m1 a _ h0
    refine ⟨.inl ⟨rfl, us0, SqL.of q0⟩, ?_⟩
    refine h1 σ H1 _ m1 (e.grow g1) (l.grow g1) fun μ2 es ws H2 ⟨ds, hp, hk⟩ g2 m2 d2 => ?_
    obtain ⟨us, q, b⟩ := m2 a _ hp
    exact hk H2 us ws Q m2 q b d2 fun μ' d u H' p g => k μ' d u H' p ((g1.trans g2).trans g)
theorem evx_bmL0 {to : TE} {r : V → List V → Hp → VK → Prop} (h : EvX K W X μ ρ to fun μ1 o => ∃ a ds, o = .at a ∧ μ1 a = some (.lst ds) ∧
      ∀ H vs Q, Mem K μ1 H → H a = some (.lst vs) → DenL K μ1 H ds vs → (∀ μ' d u H', Φ μ' d → Grow μ1 H μ' H' → Mem K μ' H' → Den K μ' H' d u → Q u H') → r (.ref a) [] H Q) : EvX K W X μ ρ (tBM0 K "list" r to) Φ := fun σ H Q m e l k =>
  h σ H _ m e l fun μ1 o v H1 ⟨a, ds, e1, hp, hk⟩ g1 m1 d1 => by
    subst e1
    unfold Den at d1
    subst d1
    obtain ⟨us, q, b⟩ := m1 a _ hp
    exact ⟨.inl ⟨rfl, us, SqL.of q⟩, hk H1 us Q m1 q b fun μ' d u H' p g => k μ' d u H' p (g1.trans g)⟩
theorem evx_app {to : TE} (h : EvX K W X μ ρ to fun μ1 o => ∃ a ds0, o = .at a ∧ μ1 a = some (.lst ds0) ∧ EvX K W X μ1 ρ te fun μ2 d => ∃ ds, μ2 a = some (.lst ds) ∧ ds.length ≤ 1000000 ∧ Φ (mput μ2 a (.lst (ds ++ [d]))) .non) : EvX K W X μ ρ (tBM K "list" rAppend to (tCons te tNil)) Φ :=
  evx_bmL (h.imp fun μ1 o ⟨a, ds0, e1, h0, h1⟩ => ⟨a, ds0, e1, h0, evl_cons (h1.imp fun μ2 d ⟨ds, hp, hz, hq⟩ => evl_nil ⟨ds, hp, fun H vs ws Q m q b d2 k => by
    obtain ⟨w, e2, dw⟩ := denL1 d2
    subst e2
    exact ⟨a, vs, w, rfl, rfl, q, by rw [← b.length]; exact Nat.lt_of_le_of_lt hz (by decide), k _ _ _ _ hq (Grow.wr hp) (m.wr hp ⟨_, upd_same, (DenL.grow (Grow.wr hp) _ _ b).append (DenL.cons (Den.grow (Grow.wr hp) _ _ dw) DenL.nil)⟩) (by unfold Den; rfl)⟩⟩)⟩)
abbrev rInsert : V → List V → Hp → VK → Prop := fun x vs H Q => ∃ (l : Addr) (xs : List V) (i : Int) (y : V), x = .ref l ∧ vs = [.int i, y] ∧ H l = some (.lst xs) ∧ xs.length < sizeLine ∧ 0 ≤ i ∧ i < 2 ^ 63 ∧ Q .non (upd H l (.lst (xs.take i.toNat ++ [y] ++ xs.drop i.toNat)))
/-- xs.insert(0, e) -/
theorem evx_ins0 {to : TE} (h : EvX K W X μ ρ to fun μ1 o => ∃ a ds0, o = .at a ∧ μ1 a = some (.lst ds0) ∧ EvX K W X μ1 ρ te fun μ2 d => ∃ ds, μ2 a = some (.lst ds) ∧ ds.length ≤ 1000000 ∧ Φ (mput μ2 a (.lst (d :: ds))) .non) :
    EvX K W X μ ρ (tBM K "list" rInsert to (tCons (tC (.int 0)) (tCons te tNil))) Φ :=
  evx_bmL (h.imp fun μ1 o ⟨a, ds0, e1, h0, h1⟩ => ⟨a, ds0, e1, h0, evl_cons (evx_int (evl_cons (h1.imp fun μ2 d ⟨ds, hp, hz, hq⟩ => evl_nil ⟨ds, hp, fun H vs ws Q m q b d2 k => by
    obtain ⟨w0, w, e2, dw0, dw⟩ := denL2 d2
    unfold Den at dw0
    subst dw0 e2
    exact ⟨a, vs, 0, w, rfl, rfl, q, by rw [← b.length]; exact Nat.lt_of_le_of_lt hz (by decide), by decide, by decide, k _ _ _ _ hq (Grow.wr hp) (m.wr hp ⟨_, upd_same, DenL.cons (Den.grow (Grow.wr hp) _ _ dw) (DenL.grow (Grow.wr hp) _ _ b)⟩) (by unfold Den; rfl)⟩⟩)))⟩)
theorem denL_dropLast : ∀ {ds : List D} {vs : List V}, DenL K μ H ds vs → DenL K μ H ds.dropLast vs.dropLast
  | [], vs, h => by unfold DenL at h; subst h; exact DenL.nil
  | [d], vs, h => by
    obtain ⟨w, e, _⟩ := denL1 h
    subst e; exact DenL.nil
  | d :: d' :: ds, vs, h => by
    unfold DenL at h
    obtain ⟨w, ws, e, a, b⟩ := h
    have b' := b
    unfold DenL at b'
    obtain ⟨w', ws', e', _, _⟩ := b'
    subst e e'
    exact DenL.cons a (denL_dropLast b)
/-- xs.pop() -/
theorem evx_pop {to : TE} (h : EvX K W X μ ρ to fun μ1 o => ∃ a ds d, o = .at a ∧ μ1 a = some (.lst ds) ∧ ds.getLast? = some d ∧ Φ (mput μ1 a (.lst ds.dropLast)) d) : EvX K W X μ ρ (tBM0 K "list" rPop to) Φ :=
  evx_bmL0 (h.imp fun μ1 o ⟨a, ds, d, e1, hp, hl, hq⟩ => ⟨a, ds, e1, hp, fun H vs Q m q b k => by
    rw [List.getLast?_eq_getElem?] at hl
    obtain ⟨v, h1, h2⟩ := b.get hl
    refine ⟨a, vs, v, rfl, rfl, q, by rw [← b.length]; exact h1, k _ _ _ _ hq (Grow.wr hp) (m.wr hp ⟨_, upd_same, DenL.grow (Grow.wr hp) _ _ (denL_dropLast b)⟩) (Den.grow (Grow.wr hp) _ _ h2)⟩⟩)
/-! ### ifs whose test is a decision -/
theorem ifD {p A B : Prop} [Decidable p] (h1 : p → A) (h2 : ¬p → B) : if decide p = true then A else B := by
  by_cases h : p
  · rw [if_pos (decide_eq_true h)]; exact h1 h
  · rw [if_neg (by rw [decide_eq_false h]; decide)]; exact h2 h
theorem ifN {p A B : Prop} [Decidable p] (h1 : ¬p → A) (h2 : p → B) : if (!decide p) = true then A else B := by
  by_cases h : p
  · rw [if_neg (by rw [decide_eq_true h]; decide)]; exact h2 h
  · rw [if_pos (by rw [decide_eq_false h]; rfl)]; exact h1 h
theorem ifB {b : Bool} {A B : Prop} (h1 : b = true → A) (h2 : b = false → B) : if b = true then A else B := by
  cases b with
  | true => rw [if_pos rfl]; exact h1 rfl
  | false => rw [if_neg (by decide)]; exact h2 rfl
theorem ifY {b : Bool} {A B : Prop} (h : b = true) (h1 : A) : if b = true then A else B := by rw [if_pos h]; exact h1
theorem ifNo {b : Bool} {A B : Prop} (h : b = false) (h1 : B) : if b = true then A else B := by rw [if_neg (by rw [h]; decide)]; exact h1
end
/-- an own error's class: where it stands, what is said of it, its __init__ -/
structure ExcD (K : PySem.W.Frag) (mg : Str → Option Value) (x : Str) (C fI : Addr) : Prop where
  m : mg x = some (.ref C)
  k : ExcK K C
  i : PySem.W.findIn K (.ref C) "__init__" = some (some (.ref fI))
/-- the __init__ that all of them have -/
structure IniD (P : Program) (w : World) (K : PySem.W.Frag) (mg : Str → Option Value) (base : Heap) (fI : Addr) : Prop where
  ex : ∃ fd : FuncData, PySem.W.typeIn K (.ref fI) = some (.type "function") ∧ FnOk P w K mg base CX0 1 fI fd ["self", "value"] (spInit K "value") ∧ Binds K fd ["self", "value"] []
theorem ps_raiseD {X : Cx} {W : WX} {x : Str} {C fI : Addr} {j : Nat} {e : Expr} {es : List Expr} {ta : TA} {p pos pos2 : Pos} (hC : ExcD X.K X.mg x C fI) (hI : IniD X.prog X.w X.K X.mg X.base fI) (hr : Room j X.A) (hj : 2 ≤ j) (tk : Takes X W) (ha : PA X (e :: es) ta)
    (hc : X.calm = true := by rfl) (hg : Gl X x := by rfl) (hdb : (x == ("__debug__" : Str)) = false := by decide)
    (he : starEach (e :: es) X.env = (false, eval e X.env) :: starEach es X.env := by rfl) (hpl : (backTo pos (starEach es X.env)).any (·.1) = false := by rfl) : PS X (.Raise (some (.Call (.Name x p) (e :: es) [] pos)) none pos2) (tRaiseO C W (spInit X.K "value") ta) := by
  obtain ⟨fd, h1, h2, h3⟩ := hI.ex
  exact ps_raise hc tk (pmk_oex hC.k.ox hC.i h1 h2 (hr.mono hj) h3 .nil pass0 hg hC.m ha hdb he hpl)
/-- WorthError's __init__ keeps its promise -/
theorem ini_ok {P : Program} {w : World} {K : PySem.W.Frag} {mg : Str → Option Value} {base : Heap} {st : Stmt} {f : Addr} {fd : FuncData} (F : Fun K "__init__" "WorthError.__init__" st f fd) (S : FnScope ["self", "value"] ["self", "value"] (defScope st))
    (h : ∀ (cdv : Value) (A : Around) (outer : List Env) (s : Shared) (H : Hp) (E : XK), PSs (cxOf CX0 P w K mg base ["self", "value"] "WorthError.__init__" (defScope st) f cdv A outer s H E).nox (defBody st) (tSeq (tDrop (tVeI K (tCons (tVar 0) (tCons (tVar 1) tNil)))) (tOst K "value" (tVar 0) (tVar 1)))) :
    FnOk P w K mg base CX0 1 f fd ["self", "value"] (spInit K "value") := by
  refine F.ok S (fun vs H Q E h => ?_) fun cdv A outer s H vs Q E hr hs => ⟨_, h cdv A outer s H E, ?_⟩
  · obtain ⟨a, C, v, rfl, _⟩ := h
    rfl
  · obtain ⟨a, C, v, rfl, T, hn, ea, k⟩ := hs
    exact ⟨_, rfl, _, rfl, a, C, [v], rfl, (by show 1 ≤ 1000; decide), T, ea, _, rfl, _, rfl, a, C, rfl, T, hn, .inl ⟨ea, fun dx h1 h2 => k dx h1 h2⟩⟩
theorem gs_mid {K : PySem.W.Frag} {W : WX} {X : XD} {μ : Mu} {ρ : Ro} {E : ED} {t u : TS} (M : Mu → Ro → Prop) (h : GS K W X μ ρ t { E with nx := M }) (k : ∀ μ1 ρ1, M μ1 ρ1 → GS K W X μ1 ρ1 u E) : GS K W X μ ρ (tSeq t u) E :=
  gs_seq (h.imp k (fun _ _ z => z) (fun _ _ z => z) (fun _ _ z => z))
theorem opx_ixA {K : PySem.W.Frag} {μ : Mu} {a : Addr} {es : List D} {i : Int} {d : D} {Φ : DP} (h : μ a = some (.lst es)) (ha : atI es i = some d) (q : Φ μ d) : OpX K (rIx K) μ (.at a) (.int i) Φ := opx_ix (x := .at a) h ha q
theorem tgx_subA {K : PySem.W.Frag} {W : WX} {X : XD} {μ : Mu} {ρ : Ro} {to ti : TE} {d : D} {Φ : Mu → Ro → Prop} {a : Addr} {ds : List D} {k : Int} {j : Nat} (h1 : μ a = some (.lst ds)) (hj : ixN ds.length k = some j) (q : Φ (mput μ a (.lst (ds.set j d))) ρ) (ho : ∀ Ψ : DP, Ψ μ (.at a) → EvX K W X μ ρ to Ψ) (hi : ∀ Ψ : DP, Ψ μ (.int k) → EvX K W X μ ρ ti Ψ) : TgX K W X μ ρ (gSub to ti rSetL) d Φ :=
  tgx_sub (ho _ (hi _ ⟨a, ds, k, j, rfl, rfl, h1, hj, q⟩))
theorem see_at {μ : Mu} {a : Addr} {ds : List D} (h : μ a = some (.lst ds)) : seeD μ (.at a) = .lst ds := by
  unfold seeD
  dsimp only
  rw [h]
theorem isL_lst {μ : Mu} {ds : List D} : IsL μ (.lst ds) ds (fun _ => True) := .inl ⟨.inl rfl, rfl⟩
theorem isL_frz {μ : Mu} {ds : List D} : IsL μ (.frz ds) ds (fun _ => True) := .inl ⟨.inr rfl, rfl⟩
theorem isL_at {μ : Mu} {a : Addr} {ds : List D} (h : μ a = some (.lst ds)) : IsL μ (.at a) ds (fun μ' => μ' a = some (.lst ds)) := .inr ⟨a, rfl, h, rfl⟩
theorem gs_never {K : PySem.W.Frag} {W : WX} {X : XD} {μ : Mu} {ρ : Ro} {E : ED} (h : False) : GS K W X μ ρ tNever E := h.elim
/-! ### the laws' decks -/
/-- a deck at a, its great cells at g, at most c draws so far -/
structure DeckAt (a g : Addr) (c : Int) (μ : Mu) (gs : List Int) (o m k : Int) : Prop where
  ne : a ≠ g
  ha : μ a = some (.lst [.at g, .int o, .int m, .int k])
  hg : μ g = some (.lst (gs.map D.int))
  gs : ∀ x ∈ gs, 0 ≤ x ∧ x.natAbs < 2 ^ 1048577
  o0 : 0 ≤ o
  o1 : o.natAbs < 2 ^ 1048577
  m0 : 0 ≤ m
  m1 : m ≤ 1000000000000000003
  k0 : 0 ≤ k
  k1 : k ≤ c
def Deck (a g : Addr) (c : Int) (μ : Mu) : Prop := ∃ gs o m k, DeckAt a g c μ gs o m k
/-- all but a and g as it was -/
def But (a g : Addr) (μ μ' : Mu) : Prop := ∀ b, b ≠ a → b ≠ g → μ' b = μ b
theorem But.refl (a g : Addr) (μ : Mu) : But a g μ μ := fun _ _ _ => rfl
theorem But.trans {a g : Addr} {μ μ1 μ2 : Mu} (h : But a g μ μ1) (k : But a g μ1 μ2) : But a g μ μ2 := fun b h1 h2 => (k b h1 h2).trans (h b h1 h2)
theorem But.put1 {a g : Addr} {μ : Mu} {o : MO} : But a g μ (mput μ a o) := fun b h1 _ => mput_ne h1
theorem But.put2 {a g : Addr} {μ : Mu} {o : MO} : But a g μ (mput μ g o) := fun b _ h2 => mput_ne h2
theorem Deck.mono {a g : Addr} {c c' : Int} {μ : Mu} (h : Deck a g c μ) (hc : c ≤ c') : Deck a g c' μ := by
  obtain ⟨gs, o, m, k, d⟩ := h
  exact ⟨gs, o, m, k, d.ne, d.ha, d.hg, d.gs, d.o0, d.o1, d.m0, d.m1, d.k0, by have := d.k1; omega⟩
/-- something else changes -/
theorem Deck.but {a g p : Addr} {c : Int} {μ : Mu} {o : MO} (h : Deck a g c μ) (h1 : p ≠ a) (h2 : p ≠ g) : Deck a g c (mput μ p o) := by
  obtain ⟨gs, o, m, k, d⟩ := h
  exact ⟨gs, o, m, k, d.ne, by rw [mput_ne (Ne.symm h1)]; exact d.ha, by rw [mput_ne (Ne.symm h2)]; exact d.hg, d.gs, d.o0, d.o1, d.m0, d.m1, d.k0, d.k1⟩
theorem kit_NoneType_list : kitB "NoneType" "list" = some false := by decide +kernel
theorem kit_NoneType_tuple : kitB "NoneType" "tuple" = some false := by decide +kernel
theorem kit_NoneType_str : kitB "NoneType" "str" = some false := by decide +kernel
theorem kit_NoneType_bool : kitB "NoneType" "bool" = some false := by decide +kernel
theorem kit_NoneType_int : kitB "NoneType" "int" = some false := by decide +kernel
theorem kit_NoneType_dict : kitB "NoneType" "dict" = some false := by decide +kernel
theorem kit_bool_list : kitB "bool" "list" = some false := by decide +kernel
theorem kit_bool_tuple : kitB "bool" "tuple" = some false := by decide +kernel
theorem kit_bool_str : kitB "bool" "str" = some false := by decide +kernel
theorem kit_bool_bool : kitB "bool" "bool" = some true := by decide +kernel
theorem kit_bool_int : kitB "bool" "int" = some true := by decide +kernel
theorem kit_bool_dict : kitB "bool" "dict" = some false := by decide +kernel
theorem kit_int_list : kitB "int" "list" = some false := by decide +kernel
theorem kit_int_tuple : kitB "int" "tuple" = some false := by decide +kernel
theorem kit_int_str : kitB "int" "str" = some false := by decide +kernel
theorem kit_int_bool : kitB "int" "bool" = some false := by decide +kernel
theorem kit_int_int : kitB "int" "int" = some true := by decide +kernel
theorem kit_int_dict : kitB "int" "dict" = some false := by decide +kernel
theorem kit_str_list : kitB "str" "list" = some false := by decide +kernel
theorem kit_str_tuple : kitB "str" "tuple" = some false := by decide +kernel
theorem kit_str_str : kitB "str" "str" = some true := by decide +kernel
theorem kit_str_bool : kitB "str" "bool" = some false := by decide +kernel
theorem kit_str_int : kitB "str" "int" = some false := by decide +kernel
theorem kit_str_dict : kitB "str" "dict" = some false := by decide +kernel
theorem kit_tuple_list : kitB "tuple" "list" = some false := by decide +kernel
theorem kit_tuple_tuple : kitB "tuple" "tuple" = some true := by decide +kernel
theorem kit_tuple_str : kitB "tuple" "str" = some false := by decide +kernel
theorem kit_tuple_bool : kitB "tuple" "bool" = some false := by decide +kernel
theorem kit_tuple_int : kitB "tuple" "int" = some false := by decide +kernel
theorem kit_tuple_dict : kitB "tuple" "dict" = some false := by decide +kernel
theorem kit_list_list : kitB "list" "list" = some true := by decide +kernel
theorem kit_list_tuple : kitB "list" "tuple" = some false := by decide +kernel
theorem kit_list_str : kitB "list" "str" = some false := by decide +kernel
theorem kit_list_bool : kitB "list" "bool" = some false := by decide +kernel
theorem kit_list_int : kitB "list" "int" = some false := by decide +kernel
theorem kit_list_dict : kitB "list" "dict" = some false := by decide +kernel
theorem kit_dict_list : kitB "dict" "list" = some false := by decide +kernel
theorem kit_dict_tuple : kitB "dict" "tuple" = some false := by decide +kernel
theorem kit_dict_str : kitB "dict" "str" = some false := by decide +kernel
theorem kit_dict_bool : kitB "dict" "bool" = some false := by decide +kernel
theorem kit_dict_int : kitB "dict" "int" = some false := by decide +kernel
theorem kit_dict_dict : kitB "dict" "dict" = some true := by decide +kernel
theorem kits_NoneType_lt : kitBs "NoneType" ["list", "tuple"] = some false := by decide +kernel
theorem kits_bool_lt : kitBs "bool" ["list", "tuple"] = some false := by decide +kernel
theorem kits_int_lt : kitBs "int" ["list", "tuple"] = some false := by decide +kernel
theorem kits_str_lt : kitBs "str" ["list", "tuple"] = some false := by decide +kernel
theorem kits_tuple_lt : kitBs "tuple" ["list", "tuple"] = some true := by decide +kernel
theorem kits_list_lt : kitBs "list" ["list", "tuple"] = some true := by decide +kernel
theorem kits_dict_lt : kitBs "dict" ["list", "tuple"] = some false := by decide +kernel
/-- nobody may call it so: a promise of nothing -/
theorem cal_false {P : Program} {w : World} {K : PySem.W.Frag} {mg : Str → Option Value} {base : Heap} {x : Str} {st : Stmt} {ps : List Str} {n : Nat} (h : Std K mg x st)
    (hbi : ∀ (kV doc pm : Value) (an : Option Addr) (cdv ct : Value) (us : List Value), us.length = ps.length → bindArgs (PySem.W.fnOf x x (defArgs st) (defBody st) (defScope st) .none kV doc pm an cdv ct) ⟨us, []⟩ = pure (ps.zip us)) :
    Cal P w K mg base CX0 0 x st ps (spD K n (fun _ _ _ _ => False)) := by
  obtain ⟨f, fd, h1, F⟩ := h
  exact ⟨f, fd, h1, F, ⟨fun vs H Q E ⟨_, _, _, _, _, _, _, z, _⟩ => z.elim, fun A outer s H args us vs Q E hr he hb hv ⟨_, _, _, _, _, _, _, z, _⟩ => z.elim⟩, F.binds hbi⟩
/-- plain data, at most n deep -/
def alD : Nat → D → Bool
  | _, .non => true
  | _, .bl _ => true
  | _, .int _ => true
  | _, .str _ => true
  | n + 1, .tup ds => ds.all (alD n) && decide (ds.length ≤ 1000000)
  | n + 1, .lst ds => ds.all (alD n) && decide (ds.length ≤ 1000000)
  | _, _ => false
/-- the laws' comparison: of what is the same -/
def P_alike : Nat → PD
  | 0 => fun _ _ _ _ => False
  | n + 1 => fun μ ds post _ => ∃ d, ds = [d, d] ∧ alD n d = true ∧ post μ (.bl true)
theorem gs_neverH {K : PySem.W.Frag} {W : WX} {X : XD} {μ : Mu} {ρ : Ro} {E : ED} {t : TS} (h : False) : GS K W X μ ρ t E := h.elim
theorem pairs_same {ds : List D} {i : Nat} {d : D} (h : (pairsD ds ds)[i]? = some d) : ∃ x, x ∈ ds ∧ d = .tup [x, x] := by
  obtain ⟨x, y, h1, h2, e⟩ := pairsD_get h
  rw [h1] at h2
  cases h2
  exact ⟨x, List.mem_of_getElem? h1, e⟩
theorem denL_ints {K : PySem.W.Frag} {μ : Mu} {H : Hp} : ∀ ns : List Int, DenL K μ H (ns.map D.int) (ns.map V.int)
  | [] => DenL.nil
  | n :: ns => DenL.cons (by unfold Den; rfl) (denL_ints ns)
theorem bits_lt {z : Int} (h : Builtin.Int.intBits z ≤ 1048576) : z.natAbs < 2 ^ 1048576 := by
  unfold Builtin.Int.intBits at h
  split at h
  · rename_i h0
    have : z.natAbs = 0 := by simpa using h0
    rw [this]
    exact Nat.two_pow_pos _
  · rename_i h0
    have h1 : z.natAbs ≠ 0 := by simpa using h0
    exact (Nat.log2_lt h1).mp (by omega)
/-- a law's promise, from its P at the script -/
theorem sp_start {K : PySem.W.Frag} {P : PD} (h : ∀ ns : List Int, ns.length ≤ 63 → (∀ n ∈ ns, n.natAbs < 2 ^ 1048576) → P (fun _ => none) [.frz (ns.map D.int)] (fun _ d => d = .bl true) excN)
    (H : Hp) (a : Addr) (ns : List Int) (hl : ns.length ≤ 63) (hb : ∀ z ∈ ns, Builtin.Int.intBits z ≤ 1048576) (hO : Only H) (hs : SqL K H a (ns.map V.int)) : spD K 1 P [.ref a] H (fun v _ => v = .bl true) fun _ _ _ => False := by
  refine ⟨fun _ => none, [.frz (ns.map D.int)], (fun _ d => d = .bl true), excN, ?_, ?_, rfl, h ns hl (fun n hn => bits_lt (hb n hn)), ?_, ?_⟩
  · intro b o e
    cases e
  · refine DenL.cons ?_ DenL.nil
    unfold Den
    refine ⟨a, _, rfl, ?_, denL_ints ns⟩
    rcases hs with hs | hs
    · exact .inl ⟨rfl, hs⟩
    · exact .inr hs
  · intro μ' d v H' hd _ _ dv
    have hd' : d = .bl true := hd
    subst hd'
    unfold Den at dv
    exact dv
  · intro μ' C d dx v H' z
    exact z.elim
theorem cal_at {P : Program} {w : World} {K : PySem.W.Frag} {mg : Str → Option Value} {base : Heap} {CX : CXT} {k : Nat} {x : Str} {st : Stmt} {ps : List Str} {sp : Sp} {f : Addr} {fd : FuncData} (c : Cal P w K mg base CX k x st ps sp) (hm : mg x = some (.ref f)) (F : Fun K x x st f fd) : FnOk P w K mg base CX k f fd ps sp := by
  obtain ⟨f', fd', h1, F', G, _⟩ := c.ex
  rw [hm] at h1
  cases h1
  obtain ⟨_, _, _, _, _, _, _, _, _, _, l1, _⟩ := F.ex
  obtain ⟨_, _, _, _, _, _, _, _, _, _, l2, _⟩ := F'.ex
  rw [l1] at l2
  have := Option.some.inj l2
  cases this
  exact G
/-- f(k = v, ..) whose errors are wished for at the caller's slots -/
def tCallKS (sp : Sp) (gV : List V → List V → List V) (E : L2.St → XK) (tk : TA) : TE := fun σ H Q => tk σ H fun zs H2 => sp (gV [] zs) H2 Q (E σ)
section
variable {X : Cx} {CX : CXT} {k j : Nat} {f : Addr} {fd : FuncData} {ps ks : List Str} {sp : Sp} {x : Str} {p pos : Pos} {kws : List Keyword} {tk : TA} {g : List Value → List Value → List Value} {gV : List V → List V → List V} {st : Stmt} {n m : Nat} {pm : List Nat} {E : L2.St → XK}
theorem pe_callK0S (F : FnOk X.prog X.w X.K X.mg X.base CX k f fd ps sp) (hr : Room k X.A) (hg : Gl X x) (hm : X.mg x = some (.ref f)) (hk : PySem.W.keepIn X.K (.ref f) = true) (hb : KBinds X.K fd ps ks g gV) (hx : ∀ σ, PassesAt CX X σ (E σ))
    (hkw : PK X kws tk) (hall : (backToKw pos (keywordEach kws X.env)).all (·.1.isSome) = true := by rfl) (hks : (backToKw pos (keywordEach kws X.env)).filterMap (·.1) = ks := by rfl)
    (hdb : (x == ("__debug__" : Str)) = false := by decide) (hn : ((backTo pos (starEach [] X.env)).any (·.1) || (backToKw pos (keywordEach kws X.env)).any (·.1.isNone)) = false := by rfl) :
    PE X (.Call (.Name x p) [] kws pos) (tCallKS sp gV E tk) := by
  constructor
  intro pins s σ H Q I h
  apply wpAny_Call_Name_kw (ld_glob I hg hm ?_ hdb)
  refine PySem.W.callWith_KW0 (h₀ := X.base) I.ok.mod.kin hk hall ?_ hn
  refine thn (hkw.run pos pins s σ H _ I h) fun ws s2 hh => ?_
  obtain ⟨zs, H2, I2, rz, q2⟩ := hh
  refine ⟨I2.kIn, ?_⟩
  rw [hks]
  have r2 := hb.rel (vs := []) (us := []) .nil rz
  have hl : (g [] ws).length = ps.length := r2.length.symm.trans (F.len _ _ _ _ q2)
  refine wpAny_call (codeAny_mono (F.run X.A X.stack s2 H2 ⟨[], ks.zip ws⟩ (g [] ws) (gV [] zs) Q (E σ) hr I2.env0 (hb.to s2 [] ws I2.kIn hl) r2 q2) fun r s' hq => ?_)
  rcases r with e | (_ | _ | _ | u)
  · exact hx σ pins H2 s2 e s' I2 hq
  · exact False.elim hq
  · exact False.elim hq
  · exact False.elim hq
  · exact I2.after hq
theorem pe_ckS {W : WX} (c : Cal X.prog X.w X.K X.mg X.base (L2.CX X.prog X.w) k x st ps sp) (hr : Room j X.A) (hj : k ≤ j) (hp : ps ≠ []) (tw : Takes X W)
    (h : ∀ (kV doc pv : Value) (an : Option Addr) (cdv ct : Value) (us ws : List Value), us.length = n → ws.length = m → bindArgs (PySem.W.fnOf x x (defArgs st) (defBody st) (defScope st) .none kV doc pv an cdv ct) ⟨us, ks.zip ws⟩ = pure (ps.zip (pm.filterMap fun i => (us ++ ws)[i]?)))
    (hkw : PK X kws tk) (hg : Gl X x := by rfl) (hall : (backToKw pos (keywordEach kws X.env)).all (·.1.isSome) = true := by rfl) (hks : (backToKw pos (keywordEach kws X.env)).filterMap (·.1) = ks := by rfl)
    (hdb : (x == ("__debug__" : Str)) = false := by decide) (hn : ((backTo pos (starEach [] X.env)).any (·.1) || (backToKw pos (keywordEach kws X.env)).any (·.1.isNone)) = false := by rfl) :
    PE X (.Call (.Name x p) [] kws pos) (tCallKS sp (permG n m pm) (WE W) tk) := by
  obtain ⟨f, fd, h1, F, G, b⟩ := c.ex
  exact pe_callK0S G (hr.mono hj) hg h1 F.kp (kb_of F hp h) (fun σ => passAt tw σ) hkw hall hks hdb hn
end
theorem evx_ckS {K : PySem.W.Frag} {W : WX} {X : XD} {μ : Mu} {ρ : Ro} {Φ : DP} {n a b : Nat} {pm : List Nat} {P : PD} {tk : TA} (h : EvL K W X μ ρ tk fun μ2 es => (permG a b pm [] es).length = n ∧ P μ2 (permG a b pm [] es) Φ fun μ' C d => X μ' ρ C d) :
    EvX K W X μ ρ (tCallKS (spD K n P) (permG a b pm) (WE W) tk) Φ := fun σ H Q m e l k =>
  h σ H _ m e l fun μ1 ds vs H1 ⟨hl, hp⟩ g1 m1 d1 => ⟨μ1, _, Φ, _, m1, permG_den DenL.nil d1, hl, hp, fun μ' d v H' p g => k μ' d v H' p (g1.trans g), fun μ' C d dx v H' p g mm => l μ' ρ C d dx v σ H' p (g1.trans g) mm ((e.grow g1).grow g)⟩
/-! ### slices -/
def EvO (K : PySem.W.Frag) (W : WX) (X : XD) (μ : Mu) (ρ : Ro) (t : TO) (Φ : Mu → Option Int → Prop) : Prop := ∀ (σ : L2.St) (H : Hp) (Q : Option Int → Hp → Prop), Mem K μ H → EnvIs K μ H ρ σ → LiftX K μ H X W → (∀ μ' o H', Φ μ' o → Grow μ H μ' H' → Mem K μ' H' → Q o H') → t σ H Q
def SlX (K : PySem.W.Frag) (r : V → Option Int → Option Int → Hp → VK → Prop) (μ : Mu) (x : D) (l u : Option Int) (Φ : DP) : Prop := ∀ (H : Hp) (v : V) (Q : VK), Mem K μ H → Den K μ H x v → (∀ μ' d w H', Φ μ' d → Grow μ H μ' H' → Mem K μ' H' → Den K μ' H' d w → Q w H') → r v l u H Q
section
variable {K : PySem.W.Frag} {W : WX} {X : XD} {μ : Mu} {ρ : Ro} {Φ : DP} {te : TE} {tl th : TO}
theorem evo_none {Φ : Mu → Option Int → Prop} (h : Φ μ none) : EvO K W X μ ρ tNoPart Φ := fun σ H Q m e l k => k μ none H h (Grow.refl _ _) m
theorem evo_part {Φ : Mu → Option Int → Prop} (h : EvX K W X μ ρ te fun μ1 d => ∃ i, d = .int i ∧ Φ μ1 (some i)) : EvO K W X μ ρ (tPart te) Φ := fun σ H Q m e l k =>
  h σ H _ m e l fun μ1 d v H1 ⟨i, hd, hp⟩ g1 m1 d1 => ⟨i, by subst hd; unfold Den at d1; exact d1, k μ1 _ H1 hp g1 m1⟩
theorem evx_sl {r : V → Option Int → Option Int → Hp → VK → Prop} (h : EvX K W X μ ρ te fun μ1 x => EvO K W X μ1 ρ tl fun μ2 l => EvO K W X μ2 ρ th fun μ3 u => SlX K r μ3 x l u Φ) : EvX K W X μ ρ (L2.tSl r te tl th) Φ := fun σ H Q m e l k =>
  h σ H _ m e l fun μ1 x v H1 h1 g1 m1 d1 => h1 σ H1 _ m1 (e.grow g1) (l.grow g1) fun μ2 o1 H2 h2 g2 m2 => h2 σ H2 _ m2 ((e.grow g1).grow g2) ((l.grow g1).grow g2) fun μ3 o2 H3 h3 g3 m3 =>
    h3 H3 v Q m3 (Den.grow g3 _ _ (Den.grow g2 _ _ d1)) fun μ' d w H' p g => k μ' d w H' p (((g1.trans g2).trans g3).trans g)
theorem slx_S {z : Str} {lo hi : Option Int} (hz : z.length ≤ 1000000) (h : Φ μ (.str (cutS z lo hi))) : SlX K rSlS μ (.str z) lo hi Φ := fun H v Q m d k => by
  unfold Den at d
  exact ⟨z, d, Nat.le_trans hz (by decide), k μ _ _ H h (Grow.refl _ _) m (by unfold Den; rfl)⟩
end
/-- the same inside a try -/
theorem op_eqTr {X : Cx} {pn : List (Addr × Obj)} {xe : Value → Shared → Prop} (hu : X.A.units + 64 < cLine) : OpR (X.tr pn xe) (compareOp .Eq) (rEqU X.K) := op_eqU (X := X.tr pn xe) hu
theorem op_neTr {X : Cx} {pn : List (Addr × Obj)} {xe : Value → Shared → Prop} (hu : X.A.units + 64 < cLine) : OpR (X.tr pn xe) (compareOp .NotEq) (rNeU X.K) := op_neU (X := X.tr pn xe) hu
/-- list(a tuple): a fresh list that will change -/
theorem cax_listM {K : PySem.W.Frag} {μ : Mu} {es : List D} {Φ : DP} (h : ∀ p, μ p = none → Φ (mput μ p (.lst es)) (.at p)) :
    CaX K (fun xs H Q => ∃ p ys, xs = [.ref p] ∧ (SqL K H p ys ∨ SqT K H p ys) ∧ ∀ l, H l = none → Q (.ref l) (upd H l (.lst ys))) μ [.tup es] Φ := fun H vs Q m d k => by
  obtain ⟨v, e, a⟩ := denL1 d
  unfold Den at a
  obtain ⟨p, us, e2, s, b⟩ := a
  subst e2
  exact ⟨p, us, e, .inr s.sq, fun l hl => k _ _ _ _ (h l (m.free hl)) (Grow.newM hl) (m.newM hl ⟨us, upd_same, DenL.grow (Grow.newM hl) _ _ b⟩) (by unfold Den; rfl)⟩
/-! ### lists of texts, and what lists can do besides -/
section
variable {K : PySem.W.Frag} {W : WX} {X : XD} {μ : Mu} {H : Hp} {ρ : Ro} {Φ : DP} {te to : TE} {x y d : D} {ds xs ys : List D}
theorem isL_sq {S : Mu → Prop} {v : V} (m : Mem K μ H) (hd : IsL μ d ds S) (dv : Den K μ H d v) : ∃ p vs, v = .ref p ∧ SqL K H p vs ∧ DenL K μ H ds vs := by
  rcases hd with ⟨e1, hS⟩ | ⟨a, e1, ha, hS⟩
  · obtain ⟨p, vs, e2, s, b⟩ : ∃ p vs, v = .ref p ∧ StS K μ H p vs ∧ DenL K μ H ds vs := by
      rcases e1 with e1 | e1
      · subst e1; unfold Den at dv
        obtain ⟨p, vs, e2, s, b⟩ := dv
        exact ⟨p, vs, e2, .inl ⟨s.1, .inl s.2⟩, b⟩
      · subst e1; unfold Den at dv; exact dv
    exact ⟨p, vs, e2, s.sq, b⟩
  · subst e1
    unfold Den at dv
    obtain ⟨vs, q, b⟩ := m a _ ha
    exact ⟨a, vs, dv, SqL.of q, b⟩
/-- a list of the program's own making -/
def Real (μ : Mu) (d : D) (ds : List D) : Prop := d = .lst ds ∨ ∃ a, d = .at a ∧ μ a = some (.lst ds)
theorem real_lst {μ : Mu} : Real μ (.lst ds) ds := .inl rfl
theorem real_at {μ : Mu} {a : Addr} (h : μ a = some (.lst ds)) : Real μ (.at a) ds := .inr ⟨a, rfl, h⟩
theorem Real.hp {v : V} (m : Mem K μ H) (hd : Real μ d ds) (dv : Den K μ H d v) : ∃ p vs, v = .ref p ∧ H p = some (.lst vs) ∧ DenL K μ H ds vs := by
  rcases hd with e1 | ⟨a, e1, ha⟩
  · subst e1; unfold Den at dv
    obtain ⟨p, vs, e2, s, b⟩ := dv
    exact ⟨p, vs, e2, s.2, b⟩
  · subst e1
    unfold Den at dv
    obtain ⟨vs, q, b⟩ := m a _ ha
    exact ⟨a, vs, dv, q, b⟩
theorem denStr : ∀ {zs : List Str} {vs : List V}, DenL K μ H (zs.map D.str) vs → vs = zs.map V.str
  | [], vs, h => by unfold List.map DenL at h; exact h
  | z :: zs, vs, h => by
    rw [List.map_cons] at h
    unfold DenL at h
    obtain ⟨w, ws, e, a, b⟩ := h
    unfold Den at a
    subst e a
    rw [denStr b, List.map_cons]
theorem strDen : ∀ (zs : List Str), DenL K μ H (zs.map D.str) (zs.map V.str)
  | [] => DenL.nil
  | z :: zs => DenL.cons (by unfold Den; rfl) (strDen zs)
theorem DenL.drop : ∀ (n : Nat) {ds : List D} {vs : List V}, DenL K μ H ds vs → DenL K μ H (ds.drop n) (vs.drop n)
  | 0, ds, vs, h => h
  | n + 1, [], vs, h => by unfold DenL at h; subst h; exact DenL.nil
  | n + 1, d :: ds, vs, h => by
    unfold DenL at h
    obtain ⟨w, ws, e, a, b⟩ := h
    subst e
    exact DenL.drop n b
theorem DenL.take : ∀ (n : Nat) {ds : List D} {vs : List V}, DenL K μ H ds vs → DenL K μ H (ds.take n) (vs.take n)
  | 0, ds, vs, h => DenL.nil
  | n + 1, [], vs, h => by unfold DenL at h; subst h; exact DenL.nil
  | n + 1, d :: ds, vs, h => by
    unfold DenL at h
    obtain ⟨w, ws, e, a, b⟩ := h
    subst e
    exact DenL.cons a (DenL.take n b)
theorem DenL.eraseIdx : ∀ (n : Nat) {ds : List D} {vs : List V}, DenL K μ H ds vs → DenL K μ H (ds.eraseIdx n) (vs.eraseIdx n)
  | n, [], vs, h => by unfold DenL at h; subst h; exact DenL.nil
  | 0, d :: ds, vs, h => by
    unfold DenL at h
    obtain ⟨w, ws, e, a, b⟩ := h
    subst e
    exact b
  | n + 1, d :: ds, vs, h => by
    unfold DenL at h
    obtain ⟨w, ws, e, a, b⟩ := h
    subst e
    exact DenL.cons a (DenL.eraseIdx n b)
theorem DenL.reverse : ∀ {ds : List D} {vs : List V}, DenL K μ H ds vs → DenL K μ H ds.reverse vs.reverse
  | [], vs, h => by unfold DenL at h; subst h; exact DenL.nil
  | d :: ds, vs, h => by
    unfold DenL at h
    obtain ⟨w, ws, e, a, b⟩ := h
    subst e
    rw [List.reverse_cons, List.reverse_cons]
    exact (DenL.reverse b).append (DenL.cons a DenL.nil)
theorem DenL.rep (h : DenL K μ H ds vs) : ∀ n : Nat, DenL K μ H (List.replicate n ds).flatten (List.replicate n vs).flatten
  | 0 => DenL.nil
  | n + 1 => by
    rw [List.replicate_succ, List.replicate_succ, List.flatten_cons, List.flatten_cons]
    exact h.append (DenL.rep h n)
/-- ds[lo:hi] -/
def cutD (ds : List D) (lo hi : Option Int) : List D := (ds.drop (HT.sIx ds.length 0 lo)).take (HT.sIx ds.length ds.length hi - HT.sIx ds.length 0 lo)
theorem DenL.cut {vs : List V} (lo hi : Option Int) (h : DenL K μ H ds vs) : DenL K μ H (cutD ds lo hi) (cutV vs lo hi) := by
  unfold cutD cutV
  rw [h.length]
  exact (h.drop _).take _
theorem slx_L {S : Mu → Prop} {lo hi : Option Int} (hd : IsL μ x ds S) (h : Φ μ (.lst (cutD ds lo hi))) : SlX K (rSlL K) μ x lo hi Φ := fun H v Q m dv k => by
  obtain ⟨p, vs, e, sq, b⟩ := isL_sq m hd dv
  subst e
  exact ⟨p, vs, rfl, sq, fun p' hp => k μ _ _ _ h (Grow.new hp) (m.new hp) (by
    unfold Den
    exact ⟨p', _, rfl, ⟨m.free hp, upd_same⟩, DenL.grow (Grow.new hp) _ _ (b.cut lo hi)⟩)⟩
theorem slx_LM {S : Mu → Prop} {lo hi : Option Int} (hd : IsL μ x ds S) (h : ∀ p, μ p = none → Φ (mput μ p (.lst (cutD ds lo hi))) (.at p)) : SlX K (rSlL K) μ x lo hi Φ := fun H v Q m dv k => by
  obtain ⟨p, vs, e, sq, b⟩ := isL_sq m hd dv
  subst e
  exact ⟨p, vs, rfl, sq, fun p' hp => k _ _ _ _ (h p' (m.free hp)) (Grow.newM hp) (m.newM hp ⟨_, upd_same, DenL.grow (Grow.newM hp) _ _ (b.cut lo hi)⟩) (by unfold Den; rfl)⟩
/-- list(..) of a list -/
theorem cax_listL {S : Mu → Prop} (hd : IsL μ x ds S) (h : Φ μ (.lst ds)) :
    CaX K (fun xs H Q => ∃ p ys, xs = [.ref p] ∧ (SqL K H p ys ∨ SqT K H p ys) ∧ ∀ l, H l = none → Q (.ref l) (upd H l (.lst ys))) μ [x] Φ := fun H vs Q m d k => by
  obtain ⟨v, e, a⟩ := denL1 d
  obtain ⟨p, us, e2, sq, b⟩ := isL_sq m hd a
  subst e2
  exact ⟨p, us, e, .inl sq, fun l hl => k _ _ _ _ h (Grow.new hl) (m.new hl) (by
    unfold Den
    exact ⟨l, _, rfl, ⟨m.free hl, upd_same⟩, DenL.grow (Grow.new hl) _ _ b⟩)⟩
theorem cax_listLM {S : Mu → Prop} (hd : IsL μ x ds S) (h : ∀ p, μ p = none → Φ (mput μ p (.lst ds)) (.at p)) :
    CaX K (fun xs H Q => ∃ p ys, xs = [.ref p] ∧ (SqL K H p ys ∨ SqT K H p ys) ∧ ∀ l, H l = none → Q (.ref l) (upd H l (.lst ys))) μ [x] Φ := fun H vs Q m d k => by
  obtain ⟨v, e, a⟩ := denL1 d
  obtain ⟨p, us, e2, sq, b⟩ := isL_sq m hd a
  subst e2
  exact ⟨p, us, e, .inl sq, fun l hl => k _ _ _ _ (h l (m.free hl)) (Grow.newM hl) (m.newM hl ⟨_, upd_same, DenL.grow (Grow.newM hl) _ _ b⟩) (by unfold Den; rfl)⟩
abbrev rJoin (K : PySem.W.Frag) : V → List V → Hp → VK → Prop := fun x xs H Q => ∃ a p, ∃ ys : List Str, x = .str a ∧ xs = [.ref p] ∧ (SqL K H p (ys.map V.str) ∨ SqT K H p (ys.map V.str)) ∧
  (ys.map (·.length)).sum + ys.length * a.length ≤ 16777216 ∧ Q (.str (Txt.join a ys)) H
/-- sep.join(texts) -/
theorem evx_join (h : EvX K W X μ ρ to fun μ1 o => ∃ a, o = .str a ∧ EvX K W X μ1 ρ te fun μ2 d => ∃ (zs : List Str) (S : Mu → Prop), IsL μ2 d (zs.map D.str) S ∧ (zs.map (·.length)).sum + zs.length * a.length ≤ 1000000 ∧ Φ μ2 (.str (Txt.join a zs))) :
    EvX K W X μ ρ (tM1 (rJoin K) to te) Φ := fun σ H Q m e l k =>
  h σ H _ m e l fun μ1 o v H1 ⟨a, e1, h1⟩ g1 m1 d1 => by
    subst e1
    unfold Den at d1
    subst d1
    refine ⟨⟨a, rfl⟩, h1 σ H1 _ m1 (e.grow g1) (l.grow g1) fun μ2 d u H2 ⟨zs, S, hi, hz, hq⟩ g2 m2 d2 => ?_⟩
    obtain ⟨p, vs, e2, sq, b⟩ := isL_sq m2 hi d2
    subst e2
    rw [denStr b] at sq
    exact ⟨a, p, zs, rfl, rfl, .inl sq, Nat.le_trans hz (by decide), k μ2 _ _ H2 hq (g1.trans g2) m2 (by unfold Den; rfl)⟩
/-- sorted(texts) -/
theorem cax_sortedS {zs : List Str} {S : Mu → Prop} (hd : IsL μ x (zs.map D.str) S) (hl : zs.length < 64) (h : ∀ zs' : List Str, zs'.Perm zs → sortedS zs' = true → Φ μ (.lst (zs'.map D.str))) : CaX K (rSortedS K) μ [x] Φ := fun H vs Q m d k => by
  obtain ⟨v, e, a⟩ := denL1 d
  obtain ⟨p, us, e2, sq, b⟩ := isL_sq m hd a
  subst e2
  rw [denStr b] at sq
  exact ⟨p, zs, e, sq, hl, fun zs' p' hp hs hf => k μ _ _ _ (h zs' hp hs) (Grow.new hf) (m.new hf) (by
    unfold Den
    exact ⟨p', _, rfl, ⟨m.free hf, upd_same⟩, strDen zs'⟩)⟩
theorem opx_cat (hx : Real μ x xs) (hy : Real μ y ys) (hl : xs.length + ys.length ≤ 1000000) (h : Φ μ (.lst (xs ++ ys))) : OpX K rCat μ x y Φ := fun H v w Q m a b k => by
  obtain ⟨p, us, e1, q1, b1⟩ := hx.hp m a
  obtain ⟨p2, us2, e2, q2, b2⟩ := hy.hp m b
  subst e1 e2
  exact ⟨p, p2, us, us2, rfl, rfl, q1, q2, by rw [← b1.length, ← b2.length]; exact Nat.le_trans hl (by decide), fun p' hp => k μ _ _ _ h (Grow.new hp) (m.new hp) (by
    unfold Den
    exact ⟨p', _, rfl, ⟨m.free hp, upd_same⟩, DenL.grow (Grow.new hp) _ _ (b1.append b2)⟩)⟩
theorem opx_rep {n : Int} (hx : Real μ x xs) (h1 : -(2 ^ 63) ≤ n) (h2 : n < 2 ^ 63) (hl : xs.length * n.toNat ≤ 1000000) (h : Φ μ (.lst (List.replicate n.toNat xs).flatten)) : OpX K rRep μ x (.int n) Φ := fun H v w Q m a b k => by
  obtain ⟨p, us, e1, q1, b1⟩ := hx.hp m a
  subst e1
  unfold Den at b
  exact ⟨p, n, us, rfl, b, q1, h1, h2, by rw [← b1.length]; exact Nat.le_trans hl (by decide), fun p' hp => k μ _ _ _ h (Grow.new hp) (m.new hp) (by
    unfold Den
    exact ⟨p', _, rfl, ⟨m.free hp, upd_same⟩, DenL.grow (Grow.new hp) _ _ (b1.rep _)⟩)⟩
/-- xs.pop(i) -/
theorem evx_popAt (h : EvX K W X μ ρ to fun μ1 o => ∃ a ds0, o = .at a ∧ μ1 a = some (.lst ds0) ∧ EvX K W X μ1 ρ te fun μ2 i => ∃ ds n k d, i = .int n ∧ μ2 a = some (.lst ds) ∧ (-(2 ^ 63) ≤ n ∧ n < 2 ^ 63) ∧ seqIndex? n ds.length = some k ∧ ds[k]? = some d ∧
    Φ (mput μ2 a (.lst (ds.eraseIdx k))) d) : EvX K W X μ ρ (tBM K "list" rPopAt to (tCons te tNil)) Φ :=
  evx_bmL (h.imp fun μ1 o ⟨a, ds0, e1, h0, h1⟩ => ⟨a, ds0, e1, h0, evl_cons (h1.imp fun μ2 i ⟨ds, n, k', d, e, hp, hn, hk, hd, hq⟩ => evl_nil ⟨ds, hp, fun H vs ws Q m q b d2 k => by
    obtain ⟨w, e2, dw⟩ := denL1 d2
    subst e
    unfold Den at dw
    subst dw e2
    obtain ⟨v, h3, h4⟩ := b.get hd
    exact ⟨a, vs, n, k', v, rfl, rfl, q, hn.1, hn.2, by rw [← b.length]; exact hk, h3, k _ _ _ _ hq (Grow.wr hp) (m.wr hp ⟨_, upd_same, DenL.grow (Grow.wr hp) _ _ (b.eraseIdx k')⟩) (Den.grow (Grow.wr hp) _ _ h4)⟩⟩)⟩)
/-- xs.insert(i, e) -/
theorem evx_ins {ti : TE} (h : EvX K W X μ ρ to fun μ1 o => ∃ a ds0, o = .at a ∧ μ1 a = some (.lst ds0) ∧ EvX K W X μ1 ρ ti fun μ2 i => EvX K W X μ2 ρ te fun μ3 d => ∃ ds n, i = .int n ∧ μ3 a = some (.lst ds) ∧ ds.length ≤ 1000000 ∧ (0 ≤ n ∧ n < 2 ^ 63) ∧
    Φ (mput μ3 a (.lst (ds.take n.toNat ++ [d] ++ ds.drop n.toNat))) .non) : EvX K W X μ ρ (tBM K "list" rInsert to (tCons ti (tCons te tNil))) Φ :=
  evx_bmL (h.imp fun μ1 o ⟨a, ds0, e1, h0, h1⟩ => ⟨a, ds0, e1, h0, evl_cons (h1.imp fun μ2 i h2 => evl_cons (h2.imp fun μ3 d ⟨ds, n, e, hp, hz, hn, hq⟩ => evl_nil ⟨ds, hp, fun H vs ws Q m q b d2 k => by
    obtain ⟨w0, w, e2, dw0, dw⟩ := denL2 d2
    subst e
    unfold Den at dw0
    subst dw0 e2
    exact ⟨a, vs, n, w, rfl, rfl, q, by rw [← b.length]; exact Nat.lt_of_le_of_lt hz (by decide), hn.1, hn.2, k _ _ _ _ hq (Grow.wr hp) (m.wr hp ⟨_, upd_same, (((DenL.grow (Grow.wr hp) _ _ b).take _).append (DenL.cons (Den.grow (Grow.wr hp) _ _ dw) DenL.nil)).append ((DenL.grow (Grow.wr hp) _ _ b).drop _)⟩) (by unfold Den; rfl)⟩⟩))⟩)
/-- xs.extend(ys) -/
theorem evx_ext (h : EvX K W X μ ρ to fun μ1 o => ∃ a ds0, o = .at a ∧ μ1 a = some (.lst ds0) ∧ EvX K W X μ1 ρ te fun μ2 y => ∃ ds zs, μ2 a = some (.lst ds) ∧ Real μ2 y zs ∧ ds.length + zs.length ≤ 1000000 ∧ Φ (mput μ2 a (.lst (ds ++ zs))) .non) :
    EvX K W X μ ρ (tBM K "list" rExtend to (tCons te tNil)) Φ :=
  evx_bmL (h.imp fun μ1 o ⟨a, ds0, e1, h0, h1⟩ => ⟨a, ds0, e1, h0, evl_cons (h1.imp fun μ2 y ⟨ds, zs, hp, hr, hz, hq⟩ => evl_nil ⟨ds, hp, fun H vs ws Q m q b d2 k => by
    obtain ⟨w, e2, dw⟩ := denL1 d2
    obtain ⟨p, us, e3, q3, b3⟩ := hr.hp m dw
    subst e3 e2
    exact ⟨a, p, vs, us, rfl, rfl, q, q3, by rw [← b.length, ← b3.length]; exact Nat.le_trans hz (by decide), k _ _ _ _ hq (Grow.wr hp) (m.wr hp ⟨_, upd_same, (DenL.grow (Grow.wr hp) _ _ b).append (DenL.grow (Grow.wr hp) _ _ b3)⟩) (by unfold Den; rfl)⟩⟩)⟩)
/-- xs.reverse() -/
theorem evx_rev (h : EvX K W X μ ρ to fun μ1 o => ∃ a ds, o = .at a ∧ μ1 a = some (.lst ds) ∧ Φ (mput μ1 a (.lst ds.reverse)) .non) : EvX K W X μ ρ (tBM0 K "list" rReverse to) Φ :=
  evx_bmL0 (h.imp fun μ1 o ⟨a, ds, e1, hp, hq⟩ => ⟨a, ds, e1, hp, fun H vs Q m q b k =>
    ⟨a, vs, rfl, rfl, q, k _ _ _ _ hq (Grow.wr hp) (m.wr hp ⟨_, upd_same, DenL.grow (Grow.wr hp) _ _ b.reverse⟩) (by unfold Den; rfl)⟩⟩)
/-- xs.clear() -/
theorem evx_clear (h : EvX K W X μ ρ to fun μ1 o => ∃ a ds, o = .at a ∧ μ1 a = some (.lst ds) ∧ Φ (mput μ1 a (.lst [])) .non) : EvX K W X μ ρ (tBM0 K "list" rClear to) Φ :=
  evx_bmL0 (h.imp fun μ1 o ⟨a, ds, e1, hp, hq⟩ => ⟨a, ds, e1, hp, fun H vs Q m q b k =>
    ⟨a, vs, rfl, rfl, q, k _ _ _ _ hq (Grow.wr hp) (m.wr hp ⟨_, upd_same, DenL.nil⟩) (by unfold Den; rfl)⟩⟩)
/-! ### a sign in a text; texts in order -/
abbrev rInSign : R2 := fun x y H Q => ∃ (c : Nat) (z : Str), x = .str ⟨#[c]⟩ ∧ y = .str z ∧ Q (.bl (decide (c ∈ z.cps.toList))) H
abbrev rNotInSign : R2 := fun x y H Q => ∃ (c : Nat) (z : Str), x = .str ⟨#[c]⟩ ∧ y = .str z ∧ Q (.bl (!decide (c ∈ z.cps.toList))) H
theorem opx_inSign {c : Nat} {z : Str} (h : Φ μ (.bl (decide (c ∈ z.cps.toList)))) : OpX K rInSign μ (.str ⟨#[c]⟩) (.str z) Φ := fun H v w Q m a b k => by
  unfold Den at a b
  exact ⟨c, z, a, b, k μ _ _ H h (Grow.refl _ _) m (by unfold Den; rfl)⟩
theorem opx_notInSign {c : Nat} {z : Str} (h : Φ μ (.bl (!decide (c ∈ z.cps.toList)))) : OpX K rNotInSign μ (.str ⟨#[c]⟩) (.str z) Φ := fun H v w Q m a b k => by
  unfold Den at a b
  exact ⟨c, z, a, b, k μ _ _ H h (Grow.refl _ _) m (by unfold Den; rfl)⟩
abbrev rLeS : R2 := fun x y H Q => ∃ i j, x = .str i ∧ y = .str j ∧ Q (.bl (!decide (j.cps.toList < i.cps.toList))) H
theorem opx_leS {i j : Str} (h : Φ μ (.bl (!decide (j.cps.toList < i.cps.toList)))) : OpX K rLeS μ (.str i) (.str j) Φ := fun H v w Q m a b k => by
  unfold Den at a b
  exact ⟨i, j, a, b, k μ _ _ H h (Grow.refl _ _) m (by unfold Den; rfl)⟩
end
/-! ### what stays, but for a deck -/
/-- what stands stays, but for the deck a with its cells g -/
def Keep (a g : Addr) (μ μ' : Mu) : Prop := ∀ b o, b ≠ a → b ≠ g → μ b = some o → μ' b = some o
theorem Keep.refl (a g : Addr) (μ : Mu) : Keep a g μ μ := fun _ _ _ _ h => h
theorem Keep.trans {a g : Addr} {μ μ1 μ2 : Mu} (h : Keep a g μ μ1) (k : Keep a g μ1 μ2) : Keep a g μ μ2 := fun b o h1 h2 e => k b o h1 h2 (h b o h1 h2 e)
theorem But.keep {a g : Addr} {μ μ' : Mu} (h : But a g μ μ') : Keep a g μ μ' := fun b o h1 h2 e => (h b h1 h2).trans e
theorem Keep.new {a g p : Addr} {μ μ' : Mu} {o : MO} (h : Keep a g μ μ') (hp : μ p = none) : Keep a g μ (mput μ' p o) := fun b o' h1 h2 e => by
  have : b ≠ p := fun z => by rw [z, hp] at e; cases e
  rw [mput_ne this]
  exact h b o' h1 h2 e
theorem Keep.put {a g p : Addr} {μ : Mu} {o : MO} (hp : μ p = none) : Keep a g μ (mput μ p o) := (Keep.refl a g μ).new hp
theorem Deck.na {a g p : Addr} {c : Int} {μ : Mu} (h : Deck a g c μ) (hp : μ p = none) : p ≠ a ∧ p ≠ g := by
  obtain ⟨gs, o, m, k, d⟩ := h
  exact ⟨fun z => (by rw [z, d.ha] at hp; exact nomatch hp), fun z => (by rw [z, d.hg] at hp; exact nomatch hp)⟩
theorem Deck.off {a g p : Addr} {c : Int} {μ μ' : Mu} (h : Deck a g c μ) (h1 : p ≠ a) (h2 : p ≠ g) (hb : ∀ b, b ≠ p → μ' b = μ b) : Deck a g c μ' := by
  obtain ⟨gs, o, m, k, d⟩ := h
  exact ⟨gs, o, m, k, d.ne, by rw [hb _ (Ne.symm h1)]; exact d.ha, by rw [hb _ (Ne.symm h2)]; exact d.hg, d.gs, d.o0, d.o1, d.m0, d.m1, d.k0, d.k1⟩
theorem Deck.cut {a g p : Addr} {c : Int} {μ : Mu} (h : Deck a g c μ) (h1 : p ≠ a) (h2 : p ≠ g) : Deck a g c (mcut μ p) := h.off h1 h2 fun b hb => mcut_ne hb
theorem Keep.off {a g p : Addr} {μ μ1 μ' : Mu} (h : Keep a g μ μ1) (hp : μ p = none) (hb : ∀ b, b ≠ p → μ' b = μ1 b) : Keep a g μ μ' := fun b o h1 h2 e => by
  have : b ≠ p := fun z => by rw [z, hp] at e; cases e
  rw [hb b this]
  exact h b o h1 h2 e
/-! ### comprehensions -/
section
variable {K : PySem.W.Frag} {W : WX} {X : XD} {μ : Mu} {ρ : Ro} {Φ : DP} {te : TE} {tt : TT} {g : TG} {wi : TI}
/-- a comprehension whose turns change the store: I of the turn, the store and what is found; the list under way is at Dl -/
theorem evx_lcI {vs : List Nat} (h : ItX K W X μ ρ wi fun μ1 ds S => (ds.length ≤ 1000000 ∧ ∀ m, S m) ∧ ∃ I : Nat → Mu → List D → Prop, I 0 μ1 [] ∧
    (∀ Dl, μ1 Dl = none → ∀ i acc μ' μ'', (∀ b, b ≠ Dl → μ'' b = μ' b) → I i μ' acc → I i μ'' acc) ∧
    (∀ Dl, μ1 Dl = none → ∀ i d μ' acc, ds[i]? = some d → acc.length ≤ i → μ' Dl = some (.lst acc) → I i μ' acc → TcX K W X vs μ' (wipeD ρ vs) g d fun μ2 ρ2 =>
      EvB K W X μ2 ρ2 tt fun μ3 b => μ3 Dl = some (.lst acc) ∧ if b = true then EvX K W X μ3 ρ2 te fun μ4 y => μ4 Dl = some (.lst acc) ∧ I (i + 1) μ4 (acc ++ [y]) else I (i + 1) μ3 acc) ∧
    ((∀ μ' acc, acc.length ≤ ds.length → I ds.length μ' acc → Φ μ' (.lst acc)) ∨ (∀ p μ' acc, μ1 p = none → acc.length ≤ ds.length → μ' p = some (.lst acc) → I ds.length μ' acc → Φ μ' (.at p)))) : EvX K W X μ ρ (tLc wi g tt te vs) Φ := by
  refine evx_lc fun σ H R m e l k => h σ H R m e l fun μ1 ds S J H1 ⟨⟨hl, hS⟩, I, h0, hst, hstep, hend⟩ g1 m1 ok => k μ1 ds S J H1 (fun Dl hD => ?_) g1 m1 ok
  refine ⟨fun i μ' acc => acc.length ≤ i ∧ I i μ' acc, ⟨Nat.le_refl _, hst Dl hD 0 [] μ1 _ (fun b hb => mput_ne hb) h0⟩, ?_, ?_, ?_⟩
  · rintro i μ' acc hi _ ⟨ha, _⟩
    exact ⟨Nat.le_trans ha (Nat.le_trans hi hl), hS _⟩
  · rintro i d μ' acc hi hD' ⟨ha, hI⟩
    intro σ H v Q m e dd k
    refine hstep Dl hD i d μ' acc hi ha hD' hI σ H v Q m e dd fun ρ2 σ2 q2 e2 hw => k ρ2 σ2 ?_ e2 hw
    refine q2.imp fun μ3 b ⟨r1, r2⟩ => ⟨r1, ?_⟩
    cases b with
    | false =>
      rw [if_neg (by decide)] at r2 ⊢
      exact ⟨Nat.le_succ_of_le ha, r2⟩
    | true =>
      rw [if_pos rfl] at r2 ⊢
      refine r2.imp fun μ4 y ⟨s1, s2⟩ => ⟨s1, ?_, hst Dl hD _ _ μ4 _ (fun b hb => mput_ne hb) s2⟩
      rw [List.length_append, List.length_singleton]
      omega
  · rintro μ' acc hD' ⟨ha, hI⟩
    rcases hend with he | he
    · exact .inl (he _ _ ha (hst Dl hD _ _ μ' _ (fun b hb => mcut_ne hb) hI))
    · exact .inr (he Dl _ _ hD ha hD' hI)
/-- the same where a deck alone is drawn from: st cards a turn -/
theorem evx_lcDk {vs : List Nat} {a ga : Addr} (h : ItX K W X μ ρ wi fun μ1 ds S => (ds.length ≤ 1000000 ∧ ∀ m, S m) ∧ ∃ (c st : Int) (R : Nat → List D → Prop), Deck a ga c μ1 ∧ R 0 [] ∧
    (∀ i d μ' acc, ds[i]? = some d → acc.length ≤ i → R i acc → Deck a ga (c + st * i) μ' → Keep a ga μ1 μ' → TcX K W X vs μ' (wipeD ρ vs) g d fun μ2 ρ2 =>
      EvB K W X μ2 ρ2 tt fun μ3 b => if b = true then Keep a ga μ' μ3 ∧ EvX K W X μ3 ρ2 te fun μ4 y => Keep a ga μ' μ4 ∧ Deck a ga (c + st * (i + 1)) μ4 ∧ R (i + 1) (acc ++ [y]) else Keep a ga μ' μ3 ∧ Deck a ga (c + st * (i + 1)) μ3 ∧ R (i + 1) acc) ∧
    ∀ μ' acc, acc.length ≤ ds.length → R ds.length acc → Deck a ga (c + st * ds.length) μ' → Keep a ga μ1 μ' → Φ μ' (.lst acc)) : EvX K W X μ ρ (tLc wi g tt te vs) Φ := by
  refine evx_lcI fun σ H R m e l k => h σ H R m e l fun μ1 ds S J H1 ⟨hl, c, st, R, hd, h0, hstep, hend⟩ g1 m1 ok => k μ1 ds S J H1 ⟨hl, ?_⟩ g1 m1 ok
  refine ⟨fun i μ' acc => Deck a ga (c + st * i) μ' ∧ Keep a ga μ1 μ' ∧ R i acc, ⟨hd.mono (by simp), Keep.refl _ _ _, h0⟩, ?_, ?_, ?_⟩
  · rintro Dl hD i acc μ' μ'' hb ⟨h1, h2, h3⟩
    have hn := hd.na hD
    exact ⟨h1.off hn.1 hn.2 hb, h2.off hD hb, h3⟩
  · rintro Dl hD i d μ' acc hi ha hDl ⟨h1, h2, h3⟩
    have hn := hd.na hD
    intro σ H v Q m e dd k
    refine hstep i d μ' acc hi ha h3 h1 h2 σ H v Q m e dd fun ρ2 σ2 q2 e2 hw => k ρ2 σ2 ?_ e2 hw
    refine q2.imp fun μ3 b r => ?_
    cases b with
    | false =>
      rw [if_neg (by decide)] at r
      refine ⟨r.1 Dl _ hn.1 hn.2 hDl, ?_⟩
      rw [if_neg (by decide)]
      exact ⟨r.2.1.mono (by rw [Int.natCast_add]; exact Int.le_refl _), h2.trans r.1, r.2.2⟩
    | true =>
      rw [if_pos rfl] at r
      refine ⟨r.1 Dl _ hn.1 hn.2 hDl, ?_⟩
      rw [if_pos rfl]
      refine r.2.imp fun μ4 y ⟨s1, s2, s3⟩ => ⟨s1 Dl _ hn.1 hn.2 hDl, s2.mono (by rw [Int.natCast_add]; exact Int.le_refl _), h2.trans s1, s3⟩
  · exact .inl fun μ' acc ha ⟨h1, h2, h3⟩ => hend μ' acc ha h3 h1 h2
/-- a comprehension whose turns change nothing, the list found kept as one that will change -/
theorem evx_lcPM {vs : List Nat} (h : ItX K W X μ ρ wi fun μ1 ds S => (ds.length ≤ 1000000 ∧ ∀ m : Mu, (∀ b o, μ1 b = some o → m b = some o) → S m) ∧ ∃ (p : D → Bool) (f : D → D),
    (∀ d, d ∈ ds → ∀ μ' : Mu, (∀ b o, μ1 b = some o → μ' b = some o) → TcX K W X vs μ' (wipeD ρ vs) g d fun μ2 ρ2 => EvB K W X μ2 ρ2 tt fun μ3 b => μ3 = μ2 ∧ b = p d ∧ (p d = true → EvX K W X μ3 ρ2 te fun μ4 y => μ4 = μ3 ∧ y = f d)) ∧
    ∀ Dl, μ1 Dl = none → Φ (mput μ1 Dl (.lst ((ds.filter p).map f))) (.at Dl)) : EvX K W X μ ρ (tLc wi g tt te vs) Φ := by
  refine evx_lc fun σ H R m e l k => h σ H R m e l fun μ1 ds S J H1 ⟨⟨hl, hS⟩, p, f, hp, hq⟩ g1 m1 ok => k μ1 ds S J H1 (fun Dl hD => ?_) g1 m1 ok
  have up : ∀ μ' : Mu, (∀ b, b ≠ Dl → μ' b = μ1 b) → ∀ b o, μ1 b = some o → μ' b = some o := fun μ' hμ b o e => by
    rw [hμ b (fun z => by rw [z, hD] at e; cases e)]; exact e
  refine ⟨fun i μ' acc => acc = ((ds.take i).filter p).map f ∧ ∀ b, b ≠ Dl → μ' b = μ1 b, ⟨by simp, fun b hb => mput_ne hb⟩, ?_, ?_, ?_⟩
  · rintro i μ' acc hi _ ⟨rfl, hμ⟩
    refine ⟨?_, hS _ (up μ' hμ)⟩
    rw [List.length_map]
    refine Nat.le_trans (List.length_filter_le _ _) ?_
    rw [List.length_take]
    omega
  · rintro i d μ' acc hi hD' ⟨rfl, hμ⟩
    have hm : d ∈ ds := List.mem_of_getElem? hi
    have e1 : ds.take (i + 1) = ds.take i ++ [d] := by
      rw [List.take_succ, hi]; rfl
    intro σ H v Q m e dd k
    refine hp d hm μ' (up μ' hμ) σ H v Q m e dd fun ρ2 σ2 q2 e2 hw => k ρ2 σ2 ?_ e2 hw
    refine q2.imp fun μ3 b ⟨r1, r2, r3⟩ => ?_
    subst r1 r2
    refine ⟨hD', ?_⟩
    cases hpd : p d with
    | false =>
      rw [if_neg (by decide)]
      refine ⟨?_, hμ⟩
      rw [e1, List.filter_append, List.filter_cons, hpd]
      simp
    | true =>
      rw [if_pos rfl]
      refine (r3 hpd).imp fun μ4 y ⟨s1, s2⟩ => ?_
      subst s1 s2
      refine ⟨hD', ?_, fun b hb => by rw [mput_ne hb]; exact hμ b hb⟩
      rw [e1, List.filter_append, List.filter_cons, hpd]
      simp
  · rintro μ' acc hD' ⟨rfl, hμ⟩
    right
    have : μ' = mput μ1 Dl (.lst ((ds.filter p).map f)) := by
      funext b
      by_cases hb : b = Dl
      · subst hb; rw [mput_same, hD', List.take_length]
      · rw [mput_ne hb, hμ b hb]
    rw [this]
    exact hq Dl hD
end
/-! ### terms within a comprehension's block -/
theorem pe_via {X : Cx} {e : Expr} {te te' : TE} (h : PE X e te') (hk : te' = te) : PE X e te := hk ▸ h
theorem pg_via {X : Cx} {e : Expr} {g g' : TG} (h : PG X e g') (hk : g' = g) : PG X e g := hk ▸ h
theorem pts_via {X : Cx} {es : List Expr} {tt tt' : TT} (h : PTs X es tt') (hk : tt' = tt) : PTs X es tt := hk ▸ h
theorem op_eqBk {X : Cx} {s : Shared} {H : Hp} {sc : Scope} {ce : Env} {fp : List Addr} (hu : X.A.units + 64 < cLine) : OpR (X.blk s H sc ce fp) (compareOp .Eq) (rEqU X.K) := op_eqU (X := X.blk s H sc ce fp) hu
theorem op_neBk {X : Cx} {s : Shared} {H : Hp} {sc : Scope} {ce : Env} {fp : List Addr} (hu : X.A.units + 64 < cLine) : OpR (X.blk s H sc ce fp) (compareOp .NotEq) (rNeU X.K) := op_neU (X := X.blk s H sc ce fp) hu
/-! ### math.lcm of great numbers -/
def rLcm : List V → Hp → VK → Prop := fun vs H Q => ∃ a b : Int, vs = [.int a, .int b] ∧ a.natAbs < 2 ^ 6000 ∧ b.natAbs < 2 ^ 6000 ∧ Q (.int ((Nat.lcm a.natAbs b.natAbs : Nat) : Int)) H
theorem lcm_mul_lt {m n : Nat} (hm : m < 2 ^ 6000) (hn : n < 2 ^ 6000) : m.lcm n < 2 ^ 12000 := by
  have h1 : m.lcm n ≤ m * n := Nat.div_le_self _ _
  have h2 : m * n < 2 ^ 6000 * 2 ^ 6000 := Nat.mul_lt_mul'' hm hn
  rw [← Nat.pow_add] at h2
  exact Nat.lt_of_le_of_lt h1 h2
theorem log_lt {m n : Nat} (h : m < 2 ^ (n + 1)) : m.log2 ≤ n := by
  by_cases h0 : m = 0
  · subst h0; exact Nat.zero_le _
  · have := (Nat.log2_lt h0).mpr h
    omega
theorem cr_lcm {X : Cx} : CallR X (.builtin "math.lcm") rLcm := by
  intro pins s σ H vs us Q I r h
  obtain ⟨a, b, rfl, ha, hb, q⟩ := h
  obtain ⟨t, u, rfl⟩ := Vals.int2 r
  have hm1 : max 1 a.natAbs < 2 ^ (5999 + 1) := Nat.max_lt.mpr ⟨Nat.one_lt_two_pow (by decide), ha⟩
  have hm2 : max a.natAbs b.natAbs < 2 ^ (5999 + 1) := Nat.max_lt.mpr ⟨ha, hb⟩
  have e1 : Nat.lcm 1 a.natAbs = a.natAbs := by simp [Nat.lcm]
  have hz : (a.natAbs.lcm b.natAbs).log2 ≤ 11999 := log_lt (lcm_mul_lt ha hb)
  have l1 := log_lt hm1
  have l2 := log_lt hm2
  refine call_function_meets PySem.W.MGF.kind_lcm PySem.W.MGF.plain_lcm PySem.W.MGF.entry_lcm (PySem.W.MGF.args_lcm _ _) (PySem.W.mg_run_lcm a t b u (by omega) (by omega) ?_).meets ?_
  · rw [e1]
    show (a.natAbs.lcm b.natAbs).log2 < bitsLine
    rw [bitsLine_eq]
    omega
  · rw [e1]
    exact ⟨.int _, H, I.tok _, ⟨_, rfl⟩, q⟩
theorem cax_lcm {K : PySem.W.Frag} {μ : Mu} {i j : Int} {Φ : DP} (hi : i.natAbs < 2 ^ 6000) (hj : j.natAbs < 2 ^ 6000) (h : Φ μ (.int ((Nat.lcm i.natAbs j.natAbs : Nat) : Int))) : CaX K rLcm μ [.int i, .int j] Φ := fun H vs Q m d k => by
  obtain ⟨v, w, e, a, b⟩ := denL2 d
  unfold Den at a b
  subst a b
  exact ⟨i, j, e, hi, hj, k μ _ _ H h (Grow.refl _ _) m (by unfold Den; rfl)⟩
/-! ### plain data, at most n deep: what == may compare -/
def Nice (n : Nat) (d : D) : Prop := plainD d = true ∧ (toP d).canLay0 = true ∧ (toP d).depth ≤ n
theorem Nice.mono {n m : Nat} {d : D} (h : Nice n d) (hm : n ≤ m) : Nice m d := ⟨h.1, h.2.1, Nat.le_trans h.2.2 hm⟩
theorem Nice.shaped {n : Nat} {d : D} (h : Nice n d) (hn : n ≤ 64) : SeqAt.shaped (toP d) = true := by
  unfold SeqAt.shaped
  rw [h.2.1, Bool.true_and]
  exact decide_eq_true (Nat.le_trans h.2.2 hn)
theorem nice_int (n : Nat) (i : Int) : Nice n (.int i) := ⟨rfl, rfl, Nat.zero_le _⟩
theorem nice_bl (n : Nat) (b : Bool) : Nice n (.bl b) := ⟨rfl, rfl, Nat.zero_le _⟩
theorem nice_non (n : Nat) : Nice n .non := ⟨rfl, rfl, Nat.zero_le _⟩
theorem nice_str (n : Nat) {z : Str} (h : (PyData.str z).canLay0 = true) : Nice n (.str z) := ⟨by
  unfold plainD SeqAt.shaped
  rw [h]; rfl, h, Nat.zero_le _⟩
theorem nices {n : Nat} : ∀ {ds : List D}, (∀ d ∈ ds, Nice n d) → plainDs ds = true ∧ PyData.canLayAll0 (toPs ds) = true ∧ PyData.depthAll (toPs ds) ≤ n
  | [], _ => ⟨rfl, rfl, Nat.zero_le _⟩
  | d :: ds, h => by
    obtain ⟨a1, a2, a3⟩ := h d (List.mem_cons_self ..)
    obtain ⟨b1, b2, b3⟩ := nices fun e he => h e (List.mem_cons_of_mem _ he)
    refine ⟨?_, ?_, ?_⟩
    · unfold plainDs; rw [a1, b1]; rfl
    · show (PyData.canLay0 (toP d) && PyData.canLayAll0 (toPs ds)) = true
      rw [a2, b2]; rfl
    · show max (PyData.depth (toP d)) (PyData.depthAll (toPs ds)) ≤ n
      exact Nat.max_le.mpr ⟨a3, b3⟩
theorem nice_tup {n : Nat} {ds : List D} (h : ∀ d ∈ ds, Nice n d) : Nice (n + 1) (.tup ds) := by
  obtain ⟨b1, b2, b3⟩ := nices h
  refine ⟨by unfold plainD; exact b1, b2, ?_⟩
  show PyData.depthAll (toPs ds) + 1 ≤ n + 1
  omega
theorem nice_lst {n : Nat} {ds : List D} (h : ∀ d ∈ ds, Nice n d) : Nice (n + 1) (.lst ds) := by
  obtain ⟨b1, b2, b3⟩ := nices h
  refine ⟨by unfold plainD; exact b1, b2, ?_⟩
  show PyData.depthAll (toPs ds) + 1 ≤ n + 1
  omega
section
variable {K : PySem.W.Frag} {μ : Mu} {x y : D} {Φ : DP} {ds es : List D}
/-- == and != of nice data -/
theorem opx_eqN (hx : Nice 64 (seeD μ x)) (hy : Nice 64 (seeD μ y)) (h : Φ μ (.bl (eqD (seeD μ x) (seeD μ y)))) : OpX K (rOr rEq (rEqD K)) μ x y Φ :=
  opx_r (opx_eqD hx.1 (hx.shaped (Nat.le_refl _)) hy.1 (hy.shaped (Nat.le_refl _)) h)
theorem opx_neN (hx : Nice 64 (seeD μ x)) (hy : Nice 64 (seeD μ y)) (h : Φ μ (.bl (!eqD (seeD μ x) (seeD μ y)))) : OpX K (rOr rNe (rNeD K)) μ x y Φ :=
  opx_r (opx_neD hx.1 (hx.shaped (Nat.le_refl _)) hy.1 (hy.shaped (Nat.le_refl _)) h)
theorem eqD_nil' (ds : List D) : eqD (.lst ds) (.lst []) = ds.isEmpty := by
  cases ds with
  | nil => rfl
  | cons d ds => rfl
/-- xs != [] -/
theorem opx_neNil (hr : Real μ x ds) (hd : ∀ d ∈ ds, Nice 60 d) (h : Φ μ (.bl (!ds.isEmpty))) : OpX K (rOr rNe (rNeD K)) μ x (.lst []) Φ := by
  have e : seeD μ x = .lst ds := by
    rcases hr with rfl | ⟨a, rfl, ha⟩
    · rfl
    · unfold seeD; dsimp only; rw [ha]
  refine opx_neN (by rw [e]; exact (nice_lst hd).mono (by decide)) ⟨rfl, rfl, by show 0 + 1 ≤ 64; decide⟩ ?_
  rw [e]
  show Φ μ (.bl (!eqD (.lst ds) (.lst [])))
  rw [eqD_nil']
  exact h
end
/-- an item at a drawn place -/
theorem pick_any : ∀ {ds : List D} {x : Int}, 0 ≤ x → x < ds.length → ∃ d, d ∈ ds ∧ atI ds x = some d := fun {ds x} h0 h1 => by
  have hk : x.toNat < ds.length := by omega
  refine ⟨ds[x.toNat], List.getElem_mem hk, ?_⟩
  unfold atI ixN
  rw [if_pos h0, if_pos h1]
  exact List.getElem?_eq_getElem hk
section
variable {K : PySem.W.Frag} {W : WX} {X : XD} {μ : Mu} {ρ : Ro} {Φ : DP} {ta tb tc : TE} {r r' : R2}
/-- a < b < c -/
theorem evx_chain (h : EvX K W X μ ρ ta fun μ1 x => EvX K W X μ1 ρ tb fun μ2 y => OpX K r μ2 x y fun μ3 d => ∃ b, d = .bl b ∧ if b = true then EvX K W X μ3 ρ tc fun μ4 z => OpX K r' μ4 y z Φ else Φ μ3 (.bl false)) : EvX K W X μ ρ (tChain r r' ta tb tc) Φ := fun σ H Q m e l k =>
  h σ H _ m e l fun μ1 x v H1 h1 g1 m1 d1 => h1 σ H1 _ m1 (e.grow g1) (l.grow g1) fun μ2 y u H2 h2 g2 m2 d2 =>
    h2 H2 v u _ m2 (Den.grow g2 _ _ d1) d2 fun μ3 d w H3 ⟨b, e3, h3⟩ g3 m3 d3 => by
      subst e3
      unfold Den at d3
      refine ⟨b, d3, ?_⟩
      have gg := (g1.trans g2).trans g3
      cases b with
      | false =>
        rw [if_neg (by decide)] at h3
        exact k _ _ _ _ h3 gg m3 (by unfold Den; rfl)
      | true =>
        rw [if_pos rfl] at h3
        exact h3 σ H3 _ m3 (e.grow gg) (l.grow gg) fun μ4 z w' H4 h4 g4 m4 d4 => h4 H4 u w' Q m4 (Den.grow g4 _ _ (Den.grow g3 _ _ d2)) d4 fun μ' d' w'' H' p g => k μ' d' w'' H' p ((gg.trans g4).trans g)
end
/-- a, b, .. = a list -/
theorem tgx_lst {K : PySem.W.Frag} {W : WX} {X : XD} {μ : Mu} {ρ : Ro} {gs : TGs} {n : Nat} {d : D} {ds : List D} {S : Mu → Prop} {Φ : Mu → Ro → Prop} (hd : IsL μ d ds S) (hn : ds.length = n) (h : TgsX K W X μ ρ gs ds Φ) : TgX K W X μ ρ (gLst K n gs) d Φ := fun σ H v Q m e l dd k => by
  obtain ⟨p, vs, e1, sq, b⟩ := isL_sq m hd dd
  exact ⟨p, vs, e1, sq, by rw [← b.length, hn], h σ H vs Q m e l b k⟩
/-! ### a text backwards -/
def revT (z : Str) : Str := ⟨((Builtin.Str.strSliceIndices none none (-1) z.length).filterMap (z.cps[·]?)).toArray⟩
theorem revT_len (z : Str) : (revT z).length ≤ z.length := by
  show ((Builtin.Str.strSliceIndices none none (-1) z.length).filterMap (z.cps[·]?)).toArray.size ≤ _
  rw [List.size_toArray]
  exact Nat.le_trans (List.length_filterMap_le _ _) (sliceIndicesBy_le none none (-1) (by decide) z.length)
theorem revT_mem (z : Str) : ∀ c ∈ (revT z).cps.toList, c ∈ z.cps.toList := fun c hc => by
  have hc' : c ∈ ((Builtin.Str.strSliceIndices none none (-1) z.length).filterMap (z.cps[·]?)) := by
    have : (revT z).cps.toList = ((Builtin.Str.strSliceIndices none none (-1) z.length).filterMap (z.cps[·]?)) := List.toList_toArray ..
    rw [this] at hc; exact hc
  obtain ⟨i, _, hi⟩ := List.mem_filterMap.mp hc'
  rw [← Array.getElem?_toList] at hi
  exact List.mem_of_getElem? hi
def tRevT (te : TE) : TE := fun σ H Q => te σ H fun x H1 => ∃ z : Str, x = .str z ∧ z.length ≤ 1000000 ∧ Q (.str (revT z)) H1
theorem pe_revT {X : Cx} {e : Expr} {te : TE} {k : Nat} {p1 p2 p3 pos : Pos} (he : PE X e te) : PE X (.Subscript e (.Slice none none (some (.UnaryOp .USub (.Constant (.int 1) k p1) p2)) p3) pos) (tRevT te) := by
  refine ⟨fun pins s σ H Q I h => ?_⟩
  refine Subscript_ (thn (he.run pins s σ H _ I h) fun v s1 ⟨x, H1, I1, r1, q1⟩ => ?_)
  obtain ⟨z, ex, hz, q⟩ := q1
  subst ex
  obtain ⟨t, rfl⟩ := r1
  have hst : PO X (some (.UnaryOp .USub (.Constant (.int 1) k p1) p2)) (tPart (tUn (rU fun i => .int (-i)) (tC (.int 1)))) := po_some (pe_un un_neg pe_int)
  refine wpAny_Slice (thn (po_none.run pins s1 σ H1 (fun o H2 => o = none ∧ H2 = H1) I1 ⟨rfl, rfl⟩) fun vl s2 ⟨l, H2, I2, pl, el, e2⟩ => ?_)
  subst el e2
  refine thn (po_none.run pins s2 σ H2 (fun o H3 => o = none ∧ H3 = H2) I2 ⟨rfl, rfl⟩) fun vu s3 ⟨u, H3, I3, pu, eu, e3⟩ => ?_
  subst eu e3
  refine thn (hst.run pins s3 σ H3 (fun o H4 => o = some (-1) ∧ H4 = H3) I3 ⟨1, rfl, -1, rfl, rfl, rfl⟩) fun vs s4 ⟨o, H4, I4, ps, eo, e4⟩ => ?_
  subst eo e4
  have I5 : Inv X pins σ H4 { s4 with heap := s4.heap.push { cls := .type "slice", data := .fields #[vl, vu, vs] } } := I4.kept (t' := s4.toks) fun b ob q => Heap.get?_push_of_some _ q
  obtain ⟨l', rfl, hl'⟩ := IsPart.raw pl
  obtain ⟨u', rfl, hu'⟩ := IsPart.raw pu
  obtain ⟨o', rfl, ho'⟩ := IsPart.raw ps
  have hl2 : l' = none := by cases l' with | none => rfl | some _ => exact nomatch hl'
  have hu2 : u' = none := by cases u' with | none => rfl | some _ => exact nomatch hu'
  obtain ⟨tk, rfl⟩ : ∃ tk, o' = some (-1, tk) := by
    cases o' with
    | none => exact nomatch ho'
    | some q => exact ⟨q.2, by obtain ⟨a, b⟩ := q; simp at ho'; rw [← ho']⟩
  subst hl2 hu2
  refine tail_any (ops := [.str z t, .ref s4.heap.objs.size]) (typeIs_str _ _ _) (F.slot_str_getitem.lookup) ?_ (by with_unfolding_all rfl)
  refine wpAny_getItem_str_slice (l := none) (u := none) (st := some (-1, tk)) ⟨_, Heap.get?_push_size _ rfl, rfl, rfl⟩ rfl ?_
  show Made.post (if ((-1 : Int) == 1 && (Builtin.Str.strSliceIndices none none (-1) z.length).length == z.length) = true then Made.val (.str z t)
    else Made.str (revT z)) (EP X pins σ Q) _
  rw [if_neg (by simp)]
  exact ⟨Nat.le_trans (revT_len z) (Nat.le_trans hz (by decide)), .str _, _, I5.tok _, ⟨_, rfl⟩, q⟩
theorem evx_revT {K : PySem.W.Frag} {W : WX} {X : XD} {μ : Mu} {ρ : Ro} {te : TE} {Φ : DP} (h : EvX K W X μ ρ te fun μ1 d => ∃ z, d = .str z ∧ z.length ≤ 1000000 ∧ Φ μ1 (.str (revT z))) : EvX K W X μ ρ (tRevT te) Φ := fun σ H Q m e l k =>
  h σ H _ m e l fun μ1 d v H1 ⟨z, e1, hz, hq⟩ g1 m1 d1 => by
    subst e1
    unfold Den at d1
    exact ⟨z, d1, hz, k μ1 _ _ H1 hq g1 m1 (by unfold Den; rfl)⟩
abbrev rUpper : V → List V → Hp → VK → Prop := fun x xs H Q => ∃ a, x = .str a ∧ xs = [] ∧ a.length ≤ 5592405 ∧ Q (.str (Txt.upper a)) H
/-- z.upper() -/
theorem evx_upper {K : PySem.W.Frag} {W : WX} {X : XD} {μ : Mu} {ρ : Ro} {te : TE} {Φ : DP} (h : EvX K W X μ ρ te fun μ1 d => ∃ z, d = .str z ∧ z.length ≤ 1000000 ∧ Φ μ1 (.str (Txt.upper z))) : EvX K W X μ ρ (tM0 rUpper te) Φ := fun σ H Q m e l k =>
  h σ H _ m e l fun μ1 d v H1 ⟨z, e1, hz, hq⟩ g1 m1 d1 => by
    subst e1
    unfold Den at d1
    exact ⟨⟨z, d1⟩, z, d1, rfl, Nat.le_trans hz (by decide), k μ1 _ _ H1 hq g1 m1 (by unfold Den; rfl)⟩
/-! ### objects of own classes: what they hold -/
section
variable {K : PySem.W.Frag} {W : WX} {X : XD} {μ : Mu} {H : Hp} {ρ : Ro} {Φ : DP} {ta tv : TE} {E : ED}
theorem den_field {f : Str} {d : D} : ∀ {fs : List Str} {ds : List D} {vs : List V}, DenL K μ H ds vs → (fs.zip ds).lookup f = some d → ∃ v, (fs.zip vs).lookup f = some v ∧ Den K μ H d v
  | [], ds, vs, _, h => by rw [List.zip_nil_left] at h; exact nomatch h
  | g :: fs, [], vs, _, h => by rw [List.zip_nil_right] at h; exact nomatch h
  | g :: fs, e :: ds, vs, hd, h => by
    unfold DenL at hd
    obtain ⟨w, ws, e1, a, b⟩ := hd
    subst e1
    rw [List.zip_cons_cons, List.lookup_cons] at h ⊢
    cases hg : f == g with
    | true =>
      rw [hg] at h
      cases h
      exact ⟨w, rfl, a⟩
    | false =>
      rw [hg] at h
      exact den_field b h
/-- an object of class C: fixed, or one that may change -/
def ObjD (μ : Mu) (x : D) (C : Addr) (fs : List Str) (ds : List D) : Prop := x = .obj C fs ds ∨ ∃ a, x = .at a ∧ μ a = some (.obj C fs ds)
theorem ObjD.hp {x : D} {C : Addr} {fs : List Str} {ds : List D} {v : V} (m : Mem K μ H) (hx : ObjD μ x C fs ds) (dv : Den K μ H x v) : ∃ p dx vs, v = .ref p ∧ H p = some (.ins C dx (fs.zip vs)) ∧ DenL K μ H ds vs := by
  rcases hx with e1 | ⟨a, e1, ha⟩
  · subst e1; unfold Den at dv
    obtain ⟨p, dx, vs, e2, s, n, b⟩ := dv
    exact ⟨p, dx, vs, e2, s.2, b⟩
  · subst e1
    unfold Den at dv
    obtain ⟨dx, vs, q, n, b⟩ := m a _ ha
    exact ⟨a, dx, vs, dv, q, b⟩
/-- o.f -/
theorem evx_fld {f : Str} (h : EvX K W X μ ρ ta fun μ1 x => ∃ C fs ds d, ObjD μ1 x C fs ds ∧ Cls K C ∧ NoAttr K C f ∧ (fs.zip ds).lookup f = some d ∧ Φ μ1 d) : EvX K W X μ ρ (tFld K ta f) Φ := fun σ H Q m e l k =>
  h σ H _ m e l fun μ1 x v H1 ⟨C, fs, ds, d, ho, hc, hn, hl, hq⟩ g1 m1 d1 => by
    obtain ⟨p, dx, vs, e1, q, b⟩ := ho.hp m1 d1
    obtain ⟨w, h1, h2⟩ := den_field b hl
    exact ⟨p, C, dx, fs.zip vs, w, e1, q, hc, hn, h1, k μ1 d w H1 hq g1 m1 h2⟩
theorem putF_zip {f : Str} {w : V} : ∀ {fs : List Str} {vs : List V}, f ∉ fs → fs.length = vs.length → putF f w (fs.zip vs) = (fs ++ [f]).zip (vs ++ [w])
  | [], [], _, _ => rfl
  | g :: fs, v :: vs, hf, hn => by
    have h1 : ¬ g = f := fun z => hf (by rw [z]; exact List.mem_cons_self ..)
    have ih := putF_zip (w := w) (fs := fs) (vs := vs) (fun z => hf (List.mem_cons_of_mem _ z)) (by simpa using hn)
    show (if g = f then (g, w) :: fs.zip vs else (g, v) :: putF f w (fs.zip vs)) = (g, v) :: (fs ++ [f]).zip (vs ++ [w])
    rw [if_neg h1, ih]
/-- o.f = e, a field that is new -/
theorem gs_fld {f : Str} (h : EvX K W X μ ρ tv fun μ1 y => EvX K W X μ1 ρ ta fun μ2 x => ∃ a C fs ds, x = .at a ∧ μ2 a = some (.obj C fs ds) ∧ Cls K C ∧ NoAttr K C f ∧ fs.length < 1000 ∧ f ∉ fs ∧ E.nx (mput μ2 a (.obj C (fs ++ [f]) (ds ++ [y]))) ρ) : GS K W X μ ρ (sFld K ta tv f) E := fun σ H D m e l k =>
  h σ H _ m e l fun μ1 y w H1 h1 g1 m1 d1 => h1 σ H1 _ m1 (e.grow g1) (l.grow g1) fun μ2 x v H2 ⟨a, C, fs, ds, ex, ha, hc, hn, hl, hf, hq⟩ g2 m2 d2 => by
    subst ex
    unfold Den at d2
    subst d2
    obtain ⟨dx, vs, q, n, b⟩ := m2 a _ ha
    refine ⟨a, C, dx, fs.zip vs, rfl, q, hc, hn, by rw [List.length_zip]; omega, ?_⟩
    rw [putF_zip hf n]
    have dy := Den.grow g2 _ _ d1
    exact k.nx _ _ _ _ hq ((g1.trans g2).trans (Grow.wr ha)) (m2.wr ha ⟨dx, _, upd_same, by rw [List.length_append, List.length_append, n]; rfl, (DenL.grow (Grow.wr ha) _ _ b).append (DenL.cons (Den.grow (Grow.wr ha) _ _ dy) DenL.nil)⟩) ((e.grow (g1.trans g2)).grow (Grow.wr ha))
end
/-! ### C(e, ..) whose __init__ may raise -/
section
variable {X : Cx} {CX : CXT} {k j : Nat} {f C : Addr} {fd : FuncData} {ps : List Str} {sp : Sp} {E : XK} {x : Str} {p pos : Pos} {e : Expr} {es : List Expr} {t : TA}
theorem run_makeS {pins : List (Addr × Obj)} {σ : L2.St} {H : Hp} {s : Shared} {Q : VK} {us : List Value} {vs : List V} (M : Mk X.K C f) (F : FnOk X.prog X.w X.K X.mg X.base CX k f fd ps sp) (hr : Room (k + 1) X.A) (hb : Binds X.K fd ps [])
    (hx : PassesAt CX X σ E) (I : L2.Inv X pins σ H s) (r : Vals vs us)
    (h : ∀ x dx, H x = none → H dx = none → dx ≠ x → sp (.ref x :: vs) (upd (upd H dx (.own x)) x (.ins C dx [])) (fun v H2 => v = .non ∧ Q (.ref x) H2) E) :
    wpAny (model X.prog X.w) X.A (call (.ref C) us) (EP X pins σ Q) X.xe s := by
  have hq := h (s.heap.objs.size + 1) s.heap.objs.size (I.hok.fresh (Nat.le_succ _)) (I.hok.fresh (Nat.le_refl _)) (Nat.ne_of_lt (Nat.lt_succ_self _))
  have I2 := L2.Inv.made (C := C) I
  have r2 : Vals (V.ref (s.heap.objs.size + 1) :: vs) (Value.ref (s.heap.objs.size + 1) :: us) := .cons rfl r
  have hl : (Value.ref (s.heap.objs.size + 1) :: us ++ []).length = ps.length := by
    rw [List.append_nil]
    have e := r2.length
    rw [F.len _ _ _ _ hq] at e
    exact e.symm
  have hbb := hb _ (Value.ref (s.heap.objs.size + 1) :: us) I2.kIn hl
  rw [List.append_nil] at hbb
  refine wpAny_call (make_map (f := f) I.kIn M.makes M.init (beq_iff_eq.mp M.fn) (codeAny_mono (F.run _ X.stack _ _ ⟨Value.ref (s.heap.objs.size + 1) :: us, []⟩ (Value.ref (s.heap.objs.size + 1) :: us) _ _ E (hr.make C us [])
    (I2.env0.make C us []) hbb r2 hq) fun r s' hq' => ?_))
  cases r with
  | error e => exact hx pins _ _ e s' I2 hq'
  | ok fl =>
    cases fl with
    | ret u =>
      obtain ⟨v, H', I3, rv, ev, q3⟩ := I2.after hq'
      subst ev
      exact ⟨rv, ⟨V.ref (s.heap.objs.size + 1), H', I3, rfl, q3⟩⟩
    | next => exact False.elim hq'
    | brk => exact False.elim hq'
    | cont => exact False.elim hq'
def tMakeS (C : Addr) (sp : Sp) (E : L2.St → XK) (t : TA) : TE := fun σ H Q => t σ H fun vs H1 => ∀ x dx, H1 x = none → H1 dx = none → dx ≠ x →
  sp (.ref x :: vs) (upd (upd H1 dx (.own x)) x (.ins C dx [])) (fun v H2 => v = .non ∧ Q (.ref x) H2) (E σ)
theorem pe_makeS {ES : L2.St → XK} (M : Mk X.K C f) (F : FnOk X.prog X.w X.K X.mg X.base CX k f fd ps sp) (hr : Room (k + 1) X.A) (hg : Gl X x) (hm : X.mg x = some (.ref C)) (hb : Binds X.K fd ps []) (hx : ∀ σ, PassesAt CX X σ (ES σ))
    (ha : PA X (e :: es) t) (hdb : (x == ("__debug__" : Str)) = false := by decide) (he : starEach (e :: es) X.env = (false, eval e X.env) :: starEach es X.env := by rfl) (hpl : (backTo pos (starEach es X.env)).any (·.1) = false := by rfl) :
    PE X (.Call (.Name x p) (e :: es) [] pos) (tMakeS C sp ES t) := by
  refine ⟨fun pins s σ H Q I h => ?_⟩
  refine wpAny_Call_Name_kw (ld_glob I hg hm ?_ hdb)
  refine PySem.W.callWith_K (h₀ := X.base) I.ok.mod.kin M.kp (thn (ha.run pos pins s σ H _ I h) fun us s1 ⟨vs, H1, I1, r, q⟩ => ⟨I1.kIn, ?_⟩) he hpl
  exact run_makeS M F hr hb (hx σ) I1 r q
end
section
variable {K : PySem.W.Frag} {W : WX} {X : XD} {μ : Mu} {ρ : Ro} {Φ : DP} {C : Addr} {n : Nat} {P : PD} {t : TA}
theorem evx_makeS (h : EvL K W X μ ρ t fun μ1 ds => ∀ x, μ1 x = none → ds.length + 1 = n ∧ P (mput μ1 x (.obj C [] [])) (.at x :: ds) (fun μ2 d => d = .non ∧ Φ μ2 (.at x)) fun μ' A d => X μ' ρ A d) : EvX K W X μ ρ (tMakeS C (spD K n P) (WE W) t) Φ := fun σ H Q m e l k =>
  h σ H _ m e l fun μ1 ds vs H1 hh g1 m1 d1 => fun x dx hx hdx hne => by
    have g2 : Grow μ1 H1 μ1 (upd H1 dx (.own x)) := Grow.new hdx
    have m2 : Mem K μ1 (upd H1 dx (.own x)) := m1.new hdx
    have hx2 : (upd H1 dx (.own x)) x = none := by rw [upd_ne (Ne.symm hne)]; exact hx
    have g3 : Grow μ1 (upd H1 dx (.own x)) (mput μ1 x (.obj C [] [])) (upd (upd H1 dx (.own x)) x (.ins C dx [])) := Grow.newM hx2
    have m3 := m2.newM (mo := .obj C [] []) (o := .ins C dx []) hx2 ⟨dx, [], upd_same, rfl, DenL.nil⟩
    obtain ⟨hl, hp⟩ := hh x (m1.free hx)
    have gg := (g1.trans g2).trans g3
    refine ⟨_, .at x :: ds, _, _, m3, DenL.cons (by unfold Den; rfl) (DenL.grow g3 _ _ (DenL.grow g2 _ _ d1)), by rw [List.length_cons]; exact hl, hp, ?_, ?_⟩
    · rintro μ' d v H' ⟨rfl, hq⟩ g mm dd
      unfold Den at dd
      exact ⟨dd, k μ' _ _ H' hq (gg.trans g) mm (by unfold Den; rfl)⟩
    · exact fun μ' A d dx v H' p g mm => l μ' ρ A d dx v σ H' p (gg.trans g) mm ((e.grow gg).grow g)
end
/-! ### C(k = v, ..) whose __init__ may raise -/
section
variable {X : Cx} {CX : CXT} {k n : Nat} {f C : Addr} {fd : FuncData} {ps ks : List Str} {sp : Sp} {E : XK} {x : Str} {p pos : Pos} {kws : List Keyword} {tk : TA} {g : List Value → List Value → List Value} {gV : List V → List V → List V}
def tMakeKS (C : Addr) (m : Nat) (sp : Sp) (gV : List V → List V → List V) (E : L2.St → XK) (tk : TA) : TE := fun σ H Q => tk σ H fun zs H2 => zs.length = m ∧ ∀ x dx, H2 x = none → H2 dx = none → dx ≠ x →
  sp (gV [.ref x] zs) (upd (upd H2 dx (.own x)) x (.ins C dx [])) (fun v H3 => v = .non ∧ Q (.ref x) H3) (E σ)
theorem run_makeKS {pins : List (Addr × Obj)} {σ : L2.St} {H : Hp} {s : Shared} {Q : VK} {ws : List Value} {zs : List V} (M : Mk X.K C f) (F : FnOk X.prog X.w X.K X.mg X.base CX k f fd ps sp) (hr : Room (k + 1) X.A) (hb : KBn X.K fd ps 1 ks g gV) (hx : PassesAt CX X σ E)
    (I : L2.Inv X pins σ H s) (rz : Vals zs ws) (l2 : zs.length = ks.length)
    (h : ∀ x dx, H x = none → H dx = none → dx ≠ x → sp (gV [.ref x] zs) (upd (upd H dx (.own x)) x (.ins C dx [])) (fun v H2 => v = .non ∧ Q (.ref x) H2) E) :
    wpAny (model X.prog X.w) X.A (call (.ref C) [] (ks.zip ws)) (EP X pins σ Q) X.xe s := by
  have hq := h (s.heap.objs.size + 1) s.heap.objs.size (I.hok.fresh (Nat.le_succ _)) (I.hok.fresh (Nat.le_refl _)) (Nat.ne_of_lt (Nat.lt_succ_self _))
  have I2 := L2.Inv.made (C := C) I
  have r1 : Vals [V.ref (s.heap.objs.size + 1)] [Value.ref (s.heap.objs.size + 1)] := .cons rfl .nil
  have r2 := hb.rel r1 rz
  refine wpAny_call (make_map (f := f) I.kIn M.makes M.init (beq_iff_eq.mp M.fn) (codeAny_mono (F.run _ X.stack _ _ ⟨[Value.ref (s.heap.objs.size + 1)], ks.zip ws⟩ (g [Value.ref (s.heap.objs.size + 1)] ws) _ _ E (hr.make C [] (ks.zip ws))
    (I2.env0.make C [] (ks.zip ws)) (hb.to _ [Value.ref (s.heap.objs.size + 1)] ws I2.kIn rfl (rz.length.symm.trans l2)) r2 hq) fun r s' hq' => ?_))
  cases r with
  | error e => exact hx pins _ _ e s' I2 hq'
  | ok fl =>
    cases fl with
    | ret u =>
      obtain ⟨v, H', I3, rv, ev, q3⟩ := I2.after hq'
      subst ev
      exact ⟨rv, ⟨V.ref (s.heap.objs.size + 1), H', I3, rfl, q3⟩⟩
    | next => exact False.elim hq'
    | brk => exact False.elim hq'
    | cont => exact False.elim hq'
theorem pe_makeKS {ES : L2.St → XK} (M : Mk X.K C f) (F : FnOk X.prog X.w X.K X.mg X.base CX k f fd ps sp) (hr : Room (k + 1) X.A) (hg : Gl X x) (hm : X.mg x = some (.ref C)) (hb : KBn X.K fd ps 1 ks g gV) (hx : ∀ σ, PassesAt CX X σ (ES σ)) (hkw : PK X kws tk)
    (hall : (backToKw pos (keywordEach kws X.env)).all (·.1.isSome) = true := by rfl) (hks : (backToKw pos (keywordEach kws X.env)).filterMap (·.1) = ks := by rfl) (hdb : (x == ("__debug__" : Str)) = false := by decide)
    (hpl : ((backTo pos (starEach [] X.env)).any (·.1) || (backToKw pos (keywordEach kws X.env)).any (·.1.isNone)) = false := by rfl) :
    PE X (.Call (.Name x p) [] kws pos) (tMakeKS C ks.length sp gV ES tk) := by
  refine ⟨fun pins s σ H Q I h => ?_⟩
  refine wpAny_Call_Name_kw (ld_glob I hg hm ?_ hdb)
  refine PySem.W.callWith_KW0 (h₀ := X.base) I.ok.mod.kin M.kp hall ?_ hpl
  refine thn (hkw.run pos pins s σ H _ I h) fun ws s2 ⟨zs, H2, I2, rz, l2, q2⟩ => ⟨I2.kIn, ?_⟩
  rw [hks]
  exact run_makeKS M F hr hb (hx σ) I2 rz l2 q2
end
section
variable {K : PySem.W.Frag} {W : WX} {X : XD} {μ : Mu} {ρ : Ro} {Φ : DP} {C : Addr} {n m a b : Nat} {pm : List Nat} {P : PD} {tk : TA}
theorem evx_makeKS (h : EvL K W X μ ρ tk fun μ1 ds => ds.length = m ∧ ∀ x, μ1 x = none → (permG a b pm [.at x] ds).length = n ∧ P (mput μ1 x (.obj C [] [])) (permG a b pm [.at x] ds) (fun μ2 d => d = .non ∧ Φ μ2 (.at x)) fun μ' A d => X μ' ρ A d) : EvX K W X μ ρ (tMakeKS C m (spD K n P) (permG a b pm) (WE W) tk) Φ := fun σ H Q mm0 e l k =>
  h σ H _ mm0 e l fun μ1 ds vs H1 hh g1 m1 d1 => ⟨by rw [← d1.length]; exact hh.1, fun x dx hx hdx hne => by
    have g2 : Grow μ1 H1 μ1 (upd H1 dx (.own x)) := Grow.new hdx
    have m2 : Mem K μ1 (upd H1 dx (.own x)) := m1.new hdx
    have hx2 : (upd H1 dx (.own x)) x = none := by rw [upd_ne (Ne.symm hne)]; exact hx
    have g3 : Grow μ1 (upd H1 dx (.own x)) (mput μ1 x (.obj C [] [])) (upd (upd H1 dx (.own x)) x (.ins C dx [])) := Grow.newM hx2
    have m3 := m2.newM (mo := .obj C [] []) (o := .ins C dx []) hx2 ⟨dx, [], upd_same, rfl, DenL.nil⟩
    obtain ⟨hl, hp⟩ := hh.2 x (m1.free hx)
    have gg := (g1.trans g2).trans g3
    have dx1 : DenL K (mput μ1 x (.obj C [] [])) (upd (upd H1 dx (.own x)) x (.ins C dx [])) [.at x] [.ref x] := DenL.cons (by unfold Den; rfl) DenL.nil
    refine ⟨_, permG a b pm [.at x] ds, _, _, m3, permG_den dx1 (DenL.grow g3 _ _ (DenL.grow g2 _ _ d1)), hl, hp, ?_, ?_⟩
    · rintro μ' d v H' ⟨rfl, hq⟩ g mm dd
      unfold Den at dd
      exact ⟨dd, k μ' _ _ H' hq (gg.trans g) mm (by unfold Den; rfl)⟩
    · exact fun μ' A d dx v H' p g mm => l μ' ρ A d dx v σ H' p (gg.trans g) mm ((e.grow gg).grow g)⟩
end
/-! ### dict comprehensions -/
def keyD : Key → D
  | .inl i => .int i
  | .inr x => .str x
section
variable {K : PySem.W.Frag} {W : WX} {X : XD} {μ : Mu} {H : Hp} {ρ : Ro} {Φ : DP} {tk tv : TE} {tt : TT} {g : TG} {wi : TI}
theorem den_key {k : Key} {v : V} (h : Den K μ H (keyD k) v) : v = kV k := by
  cases k <;> unfold keyD Den at h <;> exact h
theorem putK_zip {k : Key} {v : V} : ∀ {ks : List Key} {vs : List V}, k ∉ ks → ks.length = vs.length → putK (ks.zip vs) k v = (ks ++ [k]).zip (vs ++ [v]) := fun {ks vs} hk hl => by
  have h1 : ((ks.zip vs).any fun kv => decide (kv.1 = k)) = false := by
    rw [List.any_eq_false]
    intro p hp
    rw [decide_eq_true_eq]
    intro z
    obtain ⟨a, b⟩ := p
    exact hk (by rw [← show a = k from z]; exact (List.of_mem_zip hp).1)
  unfold putK
  rw [h1, if_neg (by decide), List.zip_append hl]
  rfl
/-- a dict comprehension: Iv by the turn, the store (the new dict in it), the keys and the data so far -/
theorem evx_dc {vs : List Nat} (h : ItX K W X μ ρ wi fun μ1 ds S => ∀ Dl, μ1 Dl = none → ∃ Iv : Nat → Mu → List Key → List D → Prop, Iv 0 (mput μ1 Dl (.dct [] [])) [] [] ∧
    (∀ i μ' ks acc, i ≤ ds.length → μ' Dl = some (.dct ks acc) → Iv i μ' ks acc → acc.length ≤ 1000000 ∧ S μ') ∧
    (∀ i d μ' ks acc, ds[i]? = some d → μ' Dl = some (.dct ks acc) → Iv i μ' ks acc → TcX K W X vs μ' (wipeD ρ vs) g d fun μ2 ρ2 =>
      EvB K W X μ2 ρ2 tt fun μ3 b => μ3 Dl = some (.dct ks acc) ∧ if b = true then EvX K W X μ3 ρ2 tk fun μ4 y => EvX K W X μ4 ρ2 tv fun μ5 z => ∃ k, y = keyD k ∧ μ5 Dl = some (.dct ks acc) ∧ k ∉ ks ∧ Iv (i + 1) (mput μ5 Dl (.dct (ks ++ [k]) (acc ++ [z]))) (ks ++ [k]) (acc ++ [z]) else Iv (i + 1) μ3 ks acc) ∧
    (∀ μ' ks acc, μ' Dl = some (.dct ks acc) → Iv ds.length μ' ks acc → Φ (mcut μ' Dl) (.dct ks acc) ∨ Φ μ' (.at Dl))) : EvX K W X μ ρ (tDc wi g tt tk tv vs) Φ := fun σ H Q m e l kk => by
  refine h σ H _ m e l fun μ1 ds S J H1 hp g1 m1 ok Dl hD => ?_
  obtain ⟨Iv, h0, hS, hs, hd⟩ := hp Dl (m1.free hD)
  obtain ⟨G, Y, w, hG, hY⟩ := ok.w
  have gn : Grow μ1 H1 (mput μ1 Dl (.dct [] [])) (upd H1 Dl (.dK [])) := Grow.newM hD
  have e1 := wipe_env (vs := vs) (e.grow g1)
  refine ⟨fun i m H' => m = ds.length - i ∧ i ≤ ds.length ∧ ∃ μ' ks acc, Iv i μ' ks acc ∧ μ' Dl = some (.dct ks acc) ∧ Grow μ1 H1 μ' H' ∧ Mem K μ' H', ⟨ds.length, by simp, Nat.zero_le _, _, [], [], h0, mput_same, gn, m1.newM hD ⟨[], upd_same, rfl, DenL.nil⟩⟩, ?_⟩
  rintro i n H' ⟨rfl, hi, μ', ks, acc, p, hl, gr, mm⟩
  have hz := hS i μ' ks acc hi hl p
  have hGG := hG μ' H' gr mm hz.2
  by_cases hlt : i < ds.length
  · refine .inr ⟨w.goes i H' hlt hGG, fun H'' => i + 1 ≤ ds.length ∧ ∃ μ' ks acc, Iv (i + 1) μ' ks acc ∧ μ' Dl = some (.dct ks acc) ∧ Grow μ1 H1 μ' H'' ∧ Mem K μ' H'', fun H'' nx => ⟨ds.length - (i + 1), by omega, rfl, nx.1, nx.2⟩, fun x H'' y => ?_⟩
    obtain ⟨q1, q2, q3⟩ := hY i μ' H' x H'' ds[i] gr mm hz.2 (w.yields i H' x H'' hlt hGG y) (by simp)
    have gg := gr.trans q1
    refine hs i ds[i] μ' ks acc (by simp) hl p (wipe σ vs) H'' x _ q2 (e1.grow gg) q3 fun ρ2 σ2 p2 e2 hw => ⟨by rw [hw, wipe_wipe], ?_⟩
    refine p2 σ2 H'' _ q2 e2 (l.grow (g1.trans gg)) fun μ3 b H3 ⟨hl3, p3⟩ g3 m3 => ?_
    cases b with
    | false =>
      rw [if_neg (by decide)] at p3 ⊢
      exact ⟨hlt, μ3, ks, acc, p3, hl3, gg.trans g3, m3⟩
    | true =>
      rw [if_pos rfl] at p3 ⊢
      refine p3 σ2 H3 _ m3 (e2.grow g3) (l.grow ((g1.trans gg).trans g3)) fun μ4 d v H4 p4 g4 m4 d4 => ?_
      refine p4 σ2 H4 _ m4 ((e2.grow g3).grow g4) (l.grow (((g1.trans gg).trans g3).trans g4)) fun μ5 z v5 H5 ⟨k, ey, hl5, hk, p5⟩ g5 m5 d5 => ?_
      subst ey
      obtain ⟨us, hu, hn, hb⟩ := m5 Dl _ hl5
      have ek := den_key d4
      subst ek
      refine ⟨_, k, rfl, hu, ?_, hlt, _, _, _, p5, mput_same, (((gg.trans g3).trans g4).trans g5).trans (Grow.wr hl5), m5.wr hl5 ⟨us ++ [v5], ?_, ?_, ?_⟩⟩
      · have : (ks.zip us).length ≤ us.length := by rw [List.length_zip]; exact Nat.min_le_right _ _
        have e2 := hb.length
        exact Nat.lt_of_le_of_lt (by omega : _ ≤ 1000000) (by decide)
      · rw [putK_zip hk hn, upd_same]
      · rw [List.length_append, List.length_append, hn]; rfl
      · exact (DenL.grow (Grow.wr hl5) _ _ hb).append (DenL.cons (Den.grow (Grow.wr hl5) _ _ d5) DenL.nil)
  · have e0 : i = ds.length := by omega
    subst e0
    refine .inl ⟨w.stops H' hGG, ?_⟩
    rcases hd μ' ks acc hl p with q | q
    · obtain ⟨us, hu, hn, hb⟩ := mm Dl _ hl
      exact kk _ _ _ H' q ((g1.trans gr).trans Grow.cut) mm.cut (by unfold Den; exact ⟨Dl, us, rfl, ⟨mcut_same, hu⟩, hn, DenL.less Less.cut _ _ hb⟩)
    · exact kk _ _ _ H' q (g1.trans gr) mm (by unfold Den; rfl)
/-- one whose turns change nothing, all keys unlike: from fk and f of the items -/
theorem evx_dcP {vs : List Nat} (h : ItX K W X μ ρ wi fun μ1 ds S => (ds.length ≤ 1000000 ∧ ∀ m : Mu, (∀ b o, μ1 b = some o → m b = some o) → S m) ∧ ∃ (fk : D → Key) (f : D → D), (ds.map fk).Nodup ∧
    (∀ d, d ∈ ds → ∀ μ' : Mu, (∀ b o, μ1 b = some o → μ' b = some o) → TcX K W X vs μ' (wipeD ρ vs) g d fun μ2 ρ2 => EvB K W X μ2 ρ2 tt fun μ3 b => μ3 = μ2 ∧ b = true ∧ EvX K W X μ3 ρ2 tk fun μ4 y => μ4 = μ3 ∧ y = keyD (fk d) ∧ EvX K W X μ4 ρ2 tv fun μ5 z => μ5 = μ4 ∧ z = f d) ∧
    Φ μ1 (.dct (ds.map fk) (ds.map f))) : EvX K W X μ ρ (tDc wi g tt tk tv vs) Φ := by
  refine evx_dc fun σ H R m e l k => h σ H R m e l fun μ1 ds S J H1 ⟨⟨hl, hS⟩, fk, f, hnd, hp, hq⟩ g1 m1 ok => k μ1 ds S J H1 (fun Dl hD => ?_) g1 m1 ok
  have up : ∀ μ' : Mu, (∀ b, b ≠ Dl → μ' b = μ1 b) → ∀ b o, μ1 b = some o → μ' b = some o := fun μ' hμ b o e => by
    rw [hμ b (fun z => by rw [z, hD] at e; cases e)]; exact e
  refine ⟨fun i μ' ks acc => ks = (ds.take i).map fk ∧ acc = (ds.take i).map f ∧ ∀ b, b ≠ Dl → μ' b = μ1 b, ⟨by simp, by simp, fun b hb => mput_ne hb⟩, ?_, ?_, ?_⟩
  · rintro i μ' ks acc hi _ ⟨rfl, rfl, hμ⟩
    refine ⟨?_, hS _ (up μ' hμ)⟩
    rw [List.length_map, List.length_take]
    omega
  · rintro i d μ' ks acc hi hD' ⟨rfl, rfl, hμ⟩
    have hm : d ∈ ds := List.mem_of_getElem? hi
    have e1 : ds.take (i + 1) = ds.take i ++ [d] := by
      rw [List.take_succ, hi]; rfl
    have hnk : fk d ∉ (ds.take i).map fk := by
      have h1 : (ds.take (i + 1)).map fk <+: ds.map fk := (List.take_prefix _ _).map fk
      have h2 := hnd.sublist h1.sublist
      rw [e1, List.map_append, List.nodup_append] at h2
      intro z
      exact h2.2.2 _ z (fk d) (List.mem_singleton.mpr rfl) rfl
    intro σ H v Q m e dd k
    refine hp d hm μ' (up μ' hμ) σ H v Q m e dd fun ρ2 σ2 q2 e2 hw => k ρ2 σ2 ?_ e2 hw
    refine q2.imp fun μ3 b ⟨r1, r2, r3⟩ => ?_
    subst r1 r2
    refine ⟨hD', ?_⟩
    rw [if_pos rfl]
    refine r3.imp fun μ4 y ⟨s1, s2, s3⟩ => ?_
    subst s1 s2
    refine s3.imp fun μ5 z ⟨t1, t2⟩ => ?_
    subst t1 t2
    refine ⟨fk d, rfl, hD', hnk, ?_, ?_, fun b hb => by rw [mput_ne hb]; exact hμ b hb⟩
    · rw [e1, List.map_append]; rfl
    · rw [e1, List.map_append]; rfl
  · rintro μ' ks acc hD' ⟨rfl, rfl, hμ⟩
    left
    have : mcut μ' Dl = μ1 := by
      funext b
      by_cases hb : b = Dl
      · subst hb; rw [mcut_same, hD]
      · rw [mcut_ne hb, hμ b hb]
    rw [this, List.take_length]
    exact hq
end
/-! ### methods of own classes -/
/-- the class (or one above it) has the method m, which keeps its promise -/
structure Met (P : Program) (w : World) (K : PySem.W.Frag) (mg : Str → Option Value) (base : Heap) (CX : CXT) (k : Nat) (C : Addr) (m : Str) (ps : List Str) (sp : Sp) : Prop where
  ex : ∃ (f : Addr) (fd : FuncData), PySem.W.findIn K (.ref C) m = some (some (.ref f)) ∧ PySem.W.isFn K (.ref f) = true ∧ PySem.W.keepIn K (.ref f) = true ∧ FnOk P w K mg base CX k f fd ps sp ∧ Binds K fd ps []
/-- where a method stands, with its text -/
def Mtd (K : PySem.W.Frag) (C : Addr) (m qual : Str) (st : Stmt) : Prop := ∃ (f : Addr) (fd : FuncData), PySem.W.findIn K (.ref C) m = some (some (.ref f)) ∧ PySem.W.isFn K (.ref f) = true ∧ Fun K m qual st f fd
section
variable {P : Program} {w : World} {K : PySem.W.Frag} {mg : Str → Option Value} {base : Heap} {C : Addr} {m qual : Str} {st : Stmt} {N ps : List Str} {k : Nat}
theorem met0 {Pd : PD} (h : Mtd K C m qual st) (S : FnScope N ps (defScope st))
    (hbi : ∀ (kV doc pm : Value) (an : Option Addr) (cdv ct : Value) (us : List Value), us.length = ps.length → bindArgs (PySem.W.fnOf m qual (defArgs st) (defBody st) (defScope st) .none kV doc pm an cdv ct) ⟨us, []⟩ = pure (ps.zip us))
    (hb : ∀ (f : Addr) (cdv : Value) (A : Around) (outer : List Env) (s : Shared) (H : Hp) (E : XK), Room k (A.deeper (envOfC qual (defScope st) s.heap.objs.size f cdv)) →
      ∃ t, PSs (cxOf CX0 P w K mg base N qual (defScope st) f cdv A outer s H E).nox (defBody st) t ∧ ∀ μ ds post exc, ds.length = ps.length → Pd μ ds post exc → GS K WN XN μ (startD N ds) t { nx := fun m _ => post m .non, rt := post }) :
    Met P w K mg base CX0 (k + 1) C m ps (spD K ps.length Pd) := by
  obtain ⟨f, fd, h1, h2, F⟩ := h
  exact ⟨f, fd, h1, h2, F.kp, def_ok F S (hb f), F.binds hbi⟩
theorem metX {Pd : PD} (h : Mtd K C m qual st) (S : FnScope N ps (defScope st))
    (hbi : ∀ (kV doc pm : Value) (an : Option Addr) (cdv ct : Value) (us : List Value), us.length = ps.length → bindArgs (PySem.W.fnOf m qual (defArgs st) (defBody st) (defScope st) .none kV doc pm an cdv ct) ⟨us, []⟩ = pure (ps.zip us))
    (hb : ∀ (f : Addr) (cdv : Value) (A : Around) (outer : List Env) (s : Shared) (H : Hp) (E : XK), Room k (A.deeper (envOfC qual (defScope st) s.heap.objs.size f cdv)) →
      ∃ t, PSs (cxOf (L2.CX P w) P w K mg base N qual (defScope st) f cdv A outer s H E) (defBody st) t ∧ ∀ μ ds post exc, ds.length = ps.length → Pd μ ds post exc → GS K (fun cls d _ H => E cls d H) (fun m _ C d => exc m C d) μ (startD N ds) t { nx := fun m _ => post m .non, rt := post }) :
    Met P w K mg base (L2.CX P w) (k + 1) C m ps (spD K ps.length Pd) := by
  obtain ⟨f, fd, h1, h2, F⟩ := h
  exact ⟨f, fd, h1, h2, F.kp, def_okX F S (hb f), F.binds hbi⟩
theorem Met.imp {CX : CXT} {n : Nat} {P1 P2 : PD} (c : Met P w K mg base CX k C m ps (spD K n P1)) (h : ∀ μ ds post exc, P2 μ ds post exc → P1 μ ds post exc) : Met P w K mg base CX k C m ps (spD K n P2) := by
  obtain ⟨f, fd, h1, h2, h3, G, b⟩ := c.ex
  exact ⟨f, fd, h1, h2, h3, fn_imp G h, b⟩
end
/-! ### a property read -/
/-- the class has f as a property whose getter keeps its promise -/
structure Prp (P : Program) (w : World) (K : PySem.W.Frag) (mg : Str → Option Value) (base : Heap) (k : Nat) (C : Addr) (f : Str) (sp : Sp) : Prop where
  ex : ∃ (p g : Addr) (fd : FuncData), PropOf K C f p g ∧ FnOk P w K mg base CX0 k g fd ["self"] sp ∧ Binds K fd ["self"] []
theorem prp0 {P : Program} {w : World} {K : PySem.W.Frag} {mg : Str → Option Value} {base : Heap} {C p g : Addr} {m qual : Str} {st : Stmt} {N : List Str} {k : Nat} {Pd : PD} {fd : FuncData} (hp : PropOf K C m p g) (F : Fun K m qual st g fd) (S : FnScope N ["self"] (defScope st))
    (hbi : ∀ (kV doc pm : Value) (an : Option Addr) (cdv ct : Value) (us : List Value), us.length = 1 → bindArgs (PySem.W.fnOf m qual (defArgs st) (defBody st) (defScope st) .none kV doc pm an cdv ct) ⟨us, []⟩ = pure ((["self"] : List Str).zip us))
    (hb : ∀ (f : Addr) (cdv : Value) (A : Around) (outer : List Env) (s : Shared) (H : Hp) (E : XK), Room k (A.deeper (envOfC qual (defScope st) s.heap.objs.size f cdv)) →
      ∃ t, PSs (cxOf CX0 P w K mg base N qual (defScope st) f cdv A outer s H E).nox (defBody st) t ∧ ∀ μ ds post exc, ds.length = 1 → Pd μ ds post exc → GS K WN XN μ (startD N ds) t { nx := fun m _ => post m .non, rt := post }) :
    Prp P w K mg base (k + 1) C m (spD K 1 Pd) := ⟨p, g, fd, hp, def_ok F S (hb g), F.binds hbi⟩
section
variable {X : Cx} {k j : Nat} {C : Addr} {f : Str} {sp : Sp} {e : Expr} {pos : Pos} {ta : TE}
theorem pe_prp (he : PE X e ta) (c : Cls X.K C) (h : Prp X.prog X.w X.K X.mg X.base k C f sp) (hr : Room j X.A) (hj : k + 1 ≤ j) (hab : attributeBase e f X.env (eval e X.env) = eval e X.env := by rfl) : PE X (.Attribute e f pos) (tProp C sp [] E0 ta) := by
  obtain ⟨p, g, fd, hp, F, b⟩ := h.ex
  exact pe_prop he c hp F (hr.mono hj) b .nil pass0 hab
end
/-- an object of class C as data -/
theorem obj_at {K : PySem.W.Frag} {μ : Mu} {H : Hp} {x : D} {C : Addr} {fs : List Str} {ds : List D} {v : V} (m : Mem K μ H) (hx : ObjD μ x C fs ds) (dv : Den K μ H x v) : ∃ p dx gs, v = .ref p ∧ H p = some (.ins C dx gs) := by
  obtain ⟨p, dx, vs, e, h, _⟩ := hx.hp m dv
  exact ⟨p, dx, _, e, h⟩
section
variable {K : PySem.W.Frag} {W : WX} {X : XD} {μ : Mu} {ρ : Ro} {Φ : DP} {C : Addr} {P : PD} {ta : TE}
theorem evx_prp (h : EvX K W X μ ρ ta fun μ1 x => (∃ fs ds, ObjD μ1 x C fs ds) ∧ P μ1 [x] Φ excN) : EvX K W X μ ρ (tProp C (spD K 1 P) [] E0 ta) Φ := fun σ H Q m e l k =>
  h σ H _ m e l fun μ1 x v H1 ⟨⟨fs, ds, ho⟩, hp⟩ g1 m1 d1 => by
    obtain ⟨p, dx, gs, e1, hi⟩ := obj_at m1 ho d1
    subst e1
    exact ⟨p, dx, gs, rfl, hi, μ1, [x], Φ, excN, m1, DenL.cons d1 DenL.nil, rfl, hp, fun μ' d v H' p g => k μ' d v H' p (g1.trans g), fun _ _ _ _ _ _ z => z.elim⟩
end
/-! ### len(o) by an own __len__ -/
section
variable {X : Cx} {k : Nat} {C f : Addr} {fd : FuncData} {ps : List Str} {sp : Sp}
def rLenO (C : Addr) (sp : Sp) : List V → Hp → VK → Prop := fun xs H Q => ∃ (a dx : Addr) (fs : List (Str × V)), xs = [.ref a] ∧ H a = some (.ins C dx fs) ∧ sp [.ref a] H (fun v H' => ∃ n : Int, v = .int n ∧ 0 ≤ n ∧ n < 2 ^ 63 ∧ Q (.int n) H') E0
theorem call_lenO (hi : PySem.W.findIn X.K (.ref C) "__len__" = some (some (.ref f))) (ht : PySem.W.typeIn X.K (.ref f) = some (.type "function")) (F : FnOk X.prog X.w X.K X.mg X.base CX0 k f fd ps sp) (hr : Room (k + 1) X.A) (hb : Binds X.K fd ps []) : CallR X (.builtin "len") (rLenO C sp) := by
  intro pins s σ H xs us Q I r h
  obtain ⟨a, dx, fs, rfl, ha, q⟩ := h
  obtain ⟨u, rfl, ru⟩ : ∃ u, us = [u] ∧ RelV (.ref a) u := by
    cases r with
    | cons h1 h2 => cases h2; exact ⟨_, rfl, h1⟩
  obtain rfl : u = Value.ref a := ru
  obtain ⟨mA, O, _, _, _, _⟩ := ins_get I.hok ha
  obtain ⟨od, J, _⟩ := O.look
  refine Calls.call_function_entry kind_len plain_len entry_len (args_len1 _) ?_
  unfold Builtin.«len»
  refine wpAny_bind (m := oneArg "len" _) (wpAny_pure ?_)
  refine wpAny_bind (m := callSpecial? (.ref a) (Str.ofString "__len__")) (PySem.W.special_fn I.kIn J hi ht ?_)
  have hl : ([Value.ref a] ++ []).length = ps.length := by
    have e := F.len _ _ _ _ q
    exact e
  refine wpAny_call (codeAny_mono (F.run X.A.in1 X.stack s H ⟨[.ref a], []⟩ [.ref a] [.ref a] _ E0 hr.in1 I.env0.in1 (hb _ [.ref a] I.kIn hl) (.cons rfl .nil) q) fun r s' hq => ?_)
  rcases r with e | (_ | _ | _ | u)
  · exact False.elim hq
  · exact False.elim hq
  · exact False.elim hq
  · exact False.elim hq
  · obtain ⟨v, H', I3, rv, n, ev, n0, n1, q3⟩ := I.after hq
    subst ev
    obtain ⟨t, rfl⟩ := rv
    refine wpAny_bind (wpAny_holding (wpAny_pure ?_))
    refine wpAny_bind (wpAny_letGo ?_)
    show wpAny _ _ (if n < 0 then _ else _) _ _ _
    rw [if_neg (by omega)]
    show wpAny _ _ (if n ≥ 2 ^ 63 then _ else _) _ _ _
    rw [if_neg (by omega)]
    exact wpAny_bind (wpAny_mkInt (wpAny_pure ⟨_, rfl, .int n, H', I3.tok _, ⟨_, rfl⟩, q3⟩))
end
section
variable {X : Cx} {k j : Nat} {C : Addr} {ps : List Str} {sp : Sp}
/-- len(o), o of class C -/
theorem call_lenC (h : Met X.prog X.w X.K X.mg X.base CX0 k C "__len__" ps sp) (hr : Room j X.A) (hj : k + 1 ≤ j) : CallR X (.builtin "len") (rLenO C sp) := by
  obtain ⟨f, fd, h1, h2, _, F, b⟩ := h.ex
  exact call_lenO h1 (beq_iff_eq.mp h2) F (hr.mono hj) b
end
section
variable {K : PySem.W.Frag} {μ : Mu} {Φ : DP} {C : Addr} {P : PD} {x : D}
theorem cax_lenO (ho : ∃ fs ds, ObjD μ x C fs ds) (hp : P μ [x] (fun μ' d => ∃ n : Nat, d = .int n ∧ n ≤ 1000000 ∧ Φ μ' (.int n)) excN) : CaX K (rLenO C (spD K 1 P)) μ [x] Φ := fun H vs Q m d k => by
  obtain ⟨v, e, a⟩ := denL1 d
  obtain ⟨fs, ds, ho⟩ := ho
  obtain ⟨p, dx, gs, e1, hi⟩ := obj_at m ho a
  subst e1 e
  refine ⟨p, dx, gs, rfl, hi, μ, [x], _, excN, m, d, rfl, hp, ?_, fun _ _ _ _ _ _ z => z.elim⟩
  rintro μ' d' v' H' ⟨n, rfl, hn, hq⟩ g mm dd
  unfold Den at dd
  exact ⟨n, dd, by omega, by omega, k μ' _ _ H' hq g mm (by unfold Den; rfl)⟩
/-- isinstance(o, c), o of an own class -/
theorem cax_isO {c : Addr} {b : Bool} (ho : ∃ fs ds, ObjD μ x C fs ds) (cl : Cls K C) (ha : PySem.W.findIn K (.ref C) "__class__" = some (some (.builtin "object.__class__"))) (G : ClsG K) (hm : PySem.W.mroIn K C (.type "object") = some true)
    (hk : PySem.W.kitOne K (.ref C) (.ref c) = some b) (h : Φ μ (.bl b)) : CaX K (rIsU K) μ [x, .at c] Φ := fun H vs Q m dd k => by
  obtain ⟨v, v', e, a, a'⟩ := denL2 dd
  obtain ⟨fs, ds, ho⟩ := ho
  obtain ⟨p, dx, gs, e1, hi⟩ := obj_at m ho a
  unfold Den at a'
  subst a' e1
  exact .inl (.inl ⟨.ref p, .ref c, .ref C, .ref c, b, e, .own c, .base (.ins hi cl ha G.hn G.ht hm), hk, k μ _ _ H h (Grow.refl _ _) m (by unfold Den; rfl)⟩)
/-- isinstance of plain data, an own class -/
theorem cax_isP {T : String} {c : Addr} {b : Bool} (ht : tyM μ x = some T) (hk : PySem.W.kitOne K (.type T) (.ref c) = some b) (h : Φ μ (.bl b)) : CaX K (rIsU K) μ [x, .at c] Φ := fun H vs Q m d k => by
  obtain ⟨v, v', e, a, a'⟩ := denL2 d
  unfold Den at a'
  subst a'
  exact .inl (.inl ⟨v, .ref c, .type T, .ref c, b, e, .own c, den_ty m a ht, hk, k μ _ _ H h (Grow.refl _ _) m (by unfold Den; rfl)⟩)
end
/-! ### C(..) of an own class -/
/-- a class of the module, with its __init__ and its promise -/
structure MkC (P : Program) (w : World) (K : PySem.W.Frag) (mg : Str → Option Value) (base : Heap) (CX : CXT) (k : Nat) (x qual : Str) (C : Addr) (st : Stmt) (ps : List Str) (sp : Sp) : Prop where
  ex : ∃ (f : Addr) (fd : FuncData), mg x = some (.ref C) ∧ Mk K C f ∧ Fun K "__init__" qual st f fd ∧ FnOk P w K mg base CX k f fd ps sp ∧ Binds K fd ps []
theorem mkX {P : Program} {w : World} {K : PySem.W.Frag} {mg : Str → Option Value} {base : Heap} {C f : Addr} {x qual : Str} {st : Stmt} {N ps : List Str} {k : Nat} {Pd : PD} {fd : FuncData} (hm : mg x = some (.ref C)) (M : Mk K C f) (F : Fun K "__init__" qual st f fd) (S : FnScope N ps (defScope st))
    (hbi : ∀ (kV doc pm : Value) (an : Option Addr) (cdv ct : Value) (us : List Value), us.length = ps.length → bindArgs (PySem.W.fnOf "__init__" qual (defArgs st) (defBody st) (defScope st) .none kV doc pm an cdv ct) ⟨us, []⟩ = pure (ps.zip us))
    (hb : ∀ (f : Addr) (cdv : Value) (A : Around) (outer : List Env) (s : Shared) (H : Hp) (E : XK), Room k (A.deeper (envOfC qual (defScope st) s.heap.objs.size f cdv)) →
      ∃ t, PSs (cxOf (L2.CX P w) P w K mg base N qual (defScope st) f cdv A outer s H E) (defBody st) t ∧ ∀ μ ds post exc, ds.length = ps.length → Pd μ ds post exc → GS K (fun cls d _ H => E cls d H) (fun m _ C d => exc m C d) μ (startD N ds) t { nx := fun m _ => post m .non, rt := post }) :
    MkC P w K mg base (L2.CX P w) (k + 1) x qual C st ps (spD K ps.length Pd) := ⟨f, fd, hm, M, F, def_okX F S (hb f), F.binds hbi⟩
theorem mk0 {P : Program} {w : World} {K : PySem.W.Frag} {mg : Str → Option Value} {base : Heap} {C f : Addr} {x qual : Str} {st : Stmt} {N ps : List Str} {k : Nat} {Pd : PD} {fd : FuncData} (hm : mg x = some (.ref C)) (M : Mk K C f) (F : Fun K "__init__" qual st f fd) (S : FnScope N ps (defScope st))
    (hbi : ∀ (kV doc pm : Value) (an : Option Addr) (cdv ct : Value) (us : List Value), us.length = ps.length → bindArgs (PySem.W.fnOf "__init__" qual (defArgs st) (defBody st) (defScope st) .none kV doc pm an cdv ct) ⟨us, []⟩ = pure (ps.zip us))
    (hb : ∀ (f : Addr) (cdv : Value) (A : Around) (outer : List Env) (s : Shared) (H : Hp) (E : XK), Room k (A.deeper (envOfC qual (defScope st) s.heap.objs.size f cdv)) →
      ∃ t, PSs (cxOf CX0 P w K mg base N qual (defScope st) f cdv A outer s H E).nox (defBody st) t ∧ ∀ μ ds post exc, ds.length = ps.length → Pd μ ds post exc → GS K WN XN μ (startD N ds) t { nx := fun m _ => post m .non, rt := post }) :
    MkC P w K mg base CX0 (k + 1) x qual C st ps (spD K ps.length Pd) := ⟨f, fd, hm, M, F, def_ok F S (hb f), F.binds hbi⟩
theorem kbn_of {K : PySem.W.Frag} {x qual : Str} {st : Stmt} {ps : List Str} {f : Addr} {fd : FuncData} {n m : Nat} {pm : List Nat} {ks : List Str} (F : Fun K x qual st f fd) (hm : ks.length = m)
    (h : ∀ (kV doc pv : Value) (an : Option Addr) (cdv ct : Value) (us ws : List Value), us.length = n → ws.length = m → bindArgs (PySem.W.fnOf x qual (defArgs st) (defBody st) (defScope st) .none kV doc pv an cdv ct) ⟨us, ks.zip ws⟩ = pure (ps.zip (pm.filterMap fun i => (us ++ ws)[i]?))) :
    KBn K fd ps n ks (permG n m pm) (permG n m pm) := by
  obtain ⟨oc, od, kV, doc, pv, an, cdv, ct, osl, rfl, lk, hcd⟩ := F.ex
  refine ⟨fun s us ws _ h1 h2 => ?_, fun {vs us zs ws} r rz => ?_⟩
  · unfold permG
    rw [if_pos ⟨h1, h2.trans hm⟩]
    exact .of_eq (h kV doc pv an cdv ct us ws h1 (h2.trans hm))
  · unfold permG
    rw [r.length, rz.length]
    by_cases c : us.length = n ∧ ws.length = m
    · rw [if_pos c, if_pos c]
      exact perm_vals (r.append rz)
    · rw [if_neg c, if_neg c]
      exact .nil
section
variable {X : Cx} {W : WX} {k j m : Nat} {x qual : Str} {C : Addr} {st : Stmt} {ps ks : List Str} {sp : Sp} {p pos : Pos} {e : Expr} {es : List Expr} {t tk : TA} {kws : List Keyword} {pm : List Nat}
theorem pe_mkS (c : MkC X.prog X.w X.K X.mg X.base (L2.CX X.prog X.w) k x qual C st ps sp) (hr : Room j X.A) (hj : k + 1 ≤ j) (tw : Takes X W) (ha : PA X (e :: es) t) (hg : Gl X x := by rfl) (hdb : (x == ("__debug__" : Str)) = false := by decide)
    (he : starEach (e :: es) X.env = (false, eval e X.env) :: starEach es X.env := by rfl) (hpl : (backTo pos (starEach es X.env)).any (·.1) = false := by rfl) : PE X (.Call (.Name x p) (e :: es) [] pos) (tMakeS C sp (WE W) t) := by
  obtain ⟨f, fd, h1, M, _, F, b⟩ := c.ex
  exact pe_makeS M F (hr.mono hj) hg h1 b (fun σ => passAt tw σ) ha hdb he hpl
theorem pe_mk0 (c : MkC X.prog X.w X.K X.mg X.base CX0 k x qual C st ps sp) (hr : Room j X.A) (hj : k + 1 ≤ j) (ha : PA X (e :: es) t) (hg : Gl X x := by rfl) (hdb : (x == ("__debug__" : Str)) = false := by decide)
    (he : starEach (e :: es) X.env = (false, eval e X.env) :: starEach es X.env := by rfl) (hpl : (backTo pos (starEach es X.env)).any (·.1) = false := by rfl) : PE X (.Call (.Name x p) (e :: es) [] pos) (tMakeS C sp (fun _ => E0) t) := by
  obtain ⟨f, fd, h1, M, _, F, b⟩ := c.ex
  exact pe_makeS M F (hr.mono hj) hg h1 b (fun σ pins H s e s' I q => q.elim) ha hdb he hpl
theorem pe_mkKS (c : MkC X.prog X.w X.K X.mg X.base (L2.CX X.prog X.w) k x qual C st ps sp) (hr : Room j X.A) (hj : k + 1 ≤ j) (tw : Takes X W) (hm : ks.length = m)
    (h : ∀ (kV doc pv : Value) (an : Option Addr) (cdv ct : Value) (us ws : List Value), us.length = 1 → ws.length = m → bindArgs (PySem.W.fnOf "__init__" qual (defArgs st) (defBody st) (defScope st) .none kV doc pv an cdv ct) ⟨us, ks.zip ws⟩ = pure (ps.zip (pm.filterMap fun i => (us ++ ws)[i]?)))
    (hkw : PK X kws tk) (hg : Gl X x := by rfl) (hall : (backToKw pos (keywordEach kws X.env)).all (·.1.isSome) = true := by rfl) (hks : (backToKw pos (keywordEach kws X.env)).filterMap (·.1) = ks := by rfl)
    (hdb : (x == ("__debug__" : Str)) = false := by decide) (hn : ((backTo pos (starEach [] X.env)).any (·.1) || (backToKw pos (keywordEach kws X.env)).any (·.1.isNone)) = false := by rfl) :
    PE X (.Call (.Name x p) [] kws pos) (tMakeKS C ks.length sp (permG 1 m pm) (WE W) tk) := by
  obtain ⟨f, fd, h1, M, Ff, F, b⟩ := c.ex
  exact pe_makeKS M F (hr.mono hj) hg h1 (kbn_of Ff hm h) (fun σ => passAt tw σ) hkw hall hks hdb hn
end
section
variable {K : PySem.W.Frag} {W : WX} {X : XD} {μ : Mu} {ρ : Ro} {Φ : DP} {C : Addr} {n m a b : Nat} {pm : List Nat} {P : PD} {t tk : TA}
/-- an object just made, that will change no more -/
def Frozen (C : Addr) (x : Addr) (Φ : DP) (μ2 : Mu) (d : D) : Prop := d = .non ∧ ∃ fs ds, μ2 x = some (.obj C fs ds) ∧ Φ (mcut μ2 x) (.obj C fs ds)
theorem evx_makeSZ (h : EvL K W X μ ρ t fun μ1 ds => ∀ x, μ1 x = none → ds.length + 1 = n ∧ P (mput μ1 x (.obj C [] [])) (.at x :: ds) (Frozen C x Φ) fun μ' A d => X μ' ρ A d) : EvX K W X μ ρ (tMakeS C (spD K n P) (WE W) t) Φ := fun σ H Q m e l k =>
  h σ H _ m e l fun μ1 ds vs H1 hh g1 m1 d1 => fun x dx hx hdx hne => by
    have g2 : Grow μ1 H1 μ1 (upd H1 dx (.own x)) := Grow.new hdx
    have m2 : Mem K μ1 (upd H1 dx (.own x)) := m1.new hdx
    have hx2 : (upd H1 dx (.own x)) x = none := by rw [upd_ne (Ne.symm hne)]; exact hx
    have g3 : Grow μ1 (upd H1 dx (.own x)) (mput μ1 x (.obj C [] [])) (upd (upd H1 dx (.own x)) x (.ins C dx [])) := Grow.newM hx2
    have m3 := m2.newM (mo := .obj C [] []) (o := .ins C dx []) hx2 ⟨dx, [], upd_same, rfl, DenL.nil⟩
    obtain ⟨hl, hp⟩ := hh x (m1.free hx)
    have gg := (g1.trans g2).trans g3
    refine ⟨_, .at x :: ds, _, _, m3, DenL.cons (by unfold Den; rfl) (DenL.grow g3 _ _ (DenL.grow g2 _ _ d1)), by rw [List.length_cons]; exact hl, hp, ?_, ?_⟩
    · rintro μ' d v H' ⟨rfl, fs, es, hμ, hq⟩ g mm dd
      unfold Den at dd
      obtain ⟨dx', us, hi, hn, hb⟩ := mm x _ hμ
      exact ⟨dd, k _ _ _ H' hq ((gg.trans g).trans Grow.cut) mm.cut (by unfold Den; exact ⟨x, dx', us, rfl, ⟨mcut_same, hi⟩, hn, DenL.less Less.cut _ _ hb⟩)⟩
    · exact fun μ' A d dx v H' p g mm => l μ' ρ A d dx v σ H' p (gg.trans g) mm ((e.grow gg).grow g)
theorem evx_make0Z (h : EvL K W X μ ρ t fun μ1 ds => ∀ x, μ1 x = none → ds.length + 1 = n ∧ P (mput μ1 x (.obj C [] [])) (.at x :: ds) (Frozen C x Φ) excN) : EvX K W X μ ρ (tMakeS C (spD K n P) (fun _ => E0) t) Φ := fun σ H Q m e l k =>
  h σ H _ m e l fun μ1 ds vs H1 hh g1 m1 d1 => fun x dx hx hdx hne => by
    have g2 : Grow μ1 H1 μ1 (upd H1 dx (.own x)) := Grow.new hdx
    have m2 : Mem K μ1 (upd H1 dx (.own x)) := m1.new hdx
    have hx2 : (upd H1 dx (.own x)) x = none := by rw [upd_ne (Ne.symm hne)]; exact hx
    have g3 : Grow μ1 (upd H1 dx (.own x)) (mput μ1 x (.obj C [] [])) (upd (upd H1 dx (.own x)) x (.ins C dx [])) := Grow.newM hx2
    have m3 := m2.newM (mo := .obj C [] []) (o := .ins C dx []) hx2 ⟨dx, [], upd_same, rfl, DenL.nil⟩
    obtain ⟨hl, hp⟩ := hh x (m1.free hx)
    have gg := (g1.trans g2).trans g3
    refine ⟨_, .at x :: ds, _, _, m3, DenL.cons (by unfold Den; rfl) (DenL.grow g3 _ _ (DenL.grow g2 _ _ d1)), by rw [List.length_cons]; exact hl, hp, ?_, fun _ _ _ _ _ _ z => z.elim⟩
    · rintro μ' d v H' ⟨rfl, fs, es, hμ, hq⟩ g mm dd
      unfold Den at dd
      obtain ⟨dx', us, hi, hn, hb⟩ := mm x _ hμ
      exact ⟨dd, k _ _ _ H' hq ((gg.trans g).trans Grow.cut) mm.cut (by unfold Den; exact ⟨x, dx', us, rfl, ⟨mcut_same, hi⟩, hn, DenL.less Less.cut _ _ hb⟩)⟩
theorem evx_makeKSZ (h : EvL K W X μ ρ tk fun μ1 ds => ds.length = m ∧ ∀ x, μ1 x = none → (permG a b pm [.at x] ds).length = n ∧ P (mput μ1 x (.obj C [] [])) (permG a b pm [.at x] ds) (Frozen C x Φ) fun μ' A d => X μ' ρ A d) : EvX K W X μ ρ (tMakeKS C m (spD K n P) (permG a b pm) (WE W) tk) Φ := fun σ H Q mm0 e l k =>
  h σ H _ mm0 e l fun μ1 ds vs H1 hh g1 m1 d1 => ⟨by rw [← d1.length]; exact hh.1, fun x dx hx hdx hne => by
    have g2 : Grow μ1 H1 μ1 (upd H1 dx (.own x)) := Grow.new hdx
    have m2 : Mem K μ1 (upd H1 dx (.own x)) := m1.new hdx
    have hx2 : (upd H1 dx (.own x)) x = none := by rw [upd_ne (Ne.symm hne)]; exact hx
    have g3 : Grow μ1 (upd H1 dx (.own x)) (mput μ1 x (.obj C [] [])) (upd (upd H1 dx (.own x)) x (.ins C dx [])) := Grow.newM hx2
    have m3 := m2.newM (mo := .obj C [] []) (o := .ins C dx []) hx2 ⟨dx, [], upd_same, rfl, DenL.nil⟩
    obtain ⟨hl, hp⟩ := hh.2 x (m1.free hx)
    have gg := (g1.trans g2).trans g3
    have dx1 : DenL K (mput μ1 x (.obj C [] [])) (upd (upd H1 dx (.own x)) x (.ins C dx [])) [.at x] [.ref x] := DenL.cons (by unfold Den; rfl) DenL.nil
    refine ⟨_, permG a b pm [.at x] ds, _, _, m3, permG_den dx1 (DenL.grow g3 _ _ (DenL.grow g2 _ _ d1)), hl, hp, ?_, ?_⟩
    · rintro μ' d v H' ⟨rfl, fs, es, hμ, hq⟩ g mm dd
      unfold Den at dd
      obtain ⟨dx', us, hi, hn, hb⟩ := mm x _ hμ
      exact ⟨dd, k _ _ _ H' hq ((gg.trans g).trans Grow.cut) mm.cut (by unfold Den; exact ⟨x, dx', us, rfl, ⟨mcut_same, hi⟩, hn, DenL.less Less.cut _ _ hb⟩)⟩
    · exact fun μ' A d dx v H' p g mm => l μ' ρ A d dx v σ H' p (gg.trans g) mm ((e.grow gg).grow g)⟩
end
/-- a statement whose walk has begun, cut at its end -/
theorem gs_at {K : PySem.W.Frag} {W : WX} {X : XD} {μ : Mu} {ρ : Ro} {t : TS} {E : ED} (M : Mu → Ro → Prop) (h : GS K W X μ ρ t { E with nx := M }) (k : ∀ μ1 ρ1, M μ1 ρ1 → E.nx μ1 ρ1) : GS K W X μ ρ t E :=
  h.imp k (fun _ _ z => z) (fun _ _ z => z) (fun _ _ z => z)
section
variable {K : PySem.W.Frag} {W : WX} {X : XD} {μ : Mu} {ρ : Ro} {E : ED} {tt : TT} {t u : TS}
/-- an if whose test changes nothing, its ways joined: Ψ of the answer -/
theorem gs_ifB (Ψ : Bool → Prop) (h : EvB K W X μ ρ tt fun m b => m = μ ∧ Ψ b) (ht : Ψ true → GS K W X μ ρ t E) (hf : Ψ false → GS K W X μ ρ u E) : GS K W X μ ρ (tIfS tt t u) E :=
  gs_if (h.imp fun m b ⟨e, q⟩ => by
    subst e
    cases b with
    | true => rw [if_pos rfl]; exact ht q
    | false => rw [if_neg (by decide)]; exact hf q)
/-- the same where the test changes the store -/
theorem gs_ifM (Ψ : Mu → Bool → Prop) (h : EvB K W X μ ρ tt Ψ) (ht : ∀ m, Ψ m true → GS K W X m ρ t E) (hf : ∀ m, Ψ m false → GS K W X m ρ u E) : GS K W X μ ρ (tIfS tt t u) E :=
  gs_if (h.imp fun m b q => by
    cases b with
    | true => rw [if_pos rfl]; exact ht m q
    | false => rw [if_neg (by decide)]; exact hf m q)
end
local macro_rules | `(tactic| walk_at "d2") => `(tactic| first
  | with_reducible refine gs_seq ?_
  | with_reducible refine gs_asg ?_
  | with_reducible refine gs_ret ?_
  | with_reducible refine gs_drop ?_
  | with_reducible refine gs_next ?_
  | with_reducible refine gs_par ?_
  | with_reducible refine gs_retN ?_
  | ((with_reducible refine evx_var (d := ?dd) ?hh ?_); (case hh => exact rfl))
  | with_reducible refine evx_int ?_
  | with_reducible refine evx_str ?_
  | with_reducible refine evx_bl ?_
  | with_reducible refine evx_non ?_
  | with_reducible refine evx_ty ?_
  | with_reducible refine evx_at ?_
  | with_reducible refine evx_op ?_
  | with_reducible refine evx_un ?_
  | ((with_reducible refine evx_isT (cs := ["list", "tuple"]) ?hr ?hc ?_); (case hr => exact fun μ1 Ψ q => evl_cons (evx_ty (evl_cons (evx_ty (evl_nil q))))); (case hc => decide))
  | ((fail_if_success (with_reducible show EvX _ _ _ _ _ (tCB _ (tCons _ (tCons (tTup _) tNil))) _)); (with_reducible refine evx_cb ?_))
  | with_reducible refine evl_cons ?_
  | with_reducible refine evl_nil ?_
  | with_reducible refine evx_tup ?_
  | with_reducible refine evx_if ?_
  | with_reducible refine evb_test ?_
  | with_reducible refine evb_B ?_
  | with_reducible refine evb_and ?_
  | with_reducible refine evb_or ?_
  | with_reducible refine evb_not ?_
  | with_reducible refine evx_andV ?_
  | with_reducible refine evx_orV ?_
  | with_reducible refine evx_notV ?_
  | with_reducible refine evx_isN ?_
  | with_reducible refine evx_notN ?_
  | with_reducible refine evx_xv ?_
  | with_reducible refine evx_call ?_
  | with_reducible refine evx_callS ?_
  | with_reducible refine evx_ck ?_
  | with_reducible refine evx_ckS ?_
  | with_reducible refine evx_sl ?_
  | with_reducible refine evo_none ?_
  | with_reducible refine evo_part ?_
  | ((with_reducible refine slx_S ?_ ?_); (exact Nat.le_of_ble_eq_true rfl))
  | with_reducible refine tgx_name ?_
  | ((with_reducible refine tgx_tup ?_ ?_); exact rfl)
  | with_reducible refine tgsx_cons ?_
  | with_reducible refine tgsx_nil ?_
  | with_reducible refine gs_break ?_
  | with_reducible refine gs_cont ?_
  | walk_at "dop")
local macro_rules | `(tactic| walk_at "d1") => `(tactic| first | walk_at "d2" | with_reducible refine gs_if ?_)
local macro_rules | `(tactic| walk_at "dl") => `(tactic| refine ⟨Nat.le_of_ble_eq_true rfl, ?_⟩)
local macro_rules | `(tactic| walk_at "dop") => `(tactic| first
  | with_reducible refine opx_i0 ?_
  | with_reducible refine opx_b0 ?_
  | with_reducible refine opx_l (opx_i0 ?_)
  | with_reducible refine opx_l (opx_eqI ?_)
  | with_reducible refine opx_l (opx_neI ?_)
  | with_reducible refine opx_l (opx_eqS ?_)
  | with_reducible refine opx_l (opx_neS ?_)
  | with_reducible refine opx_l (opx_eqB ?_)
  | with_reducible refine opx_l (opx_neB ?_)
  | ((with_reducible refine opx_i ?_ ?_); walk_at "ds")
  | ((with_reducible refine opx_l (opx_i ?_ ?_)); walk_at "ds")
  | with_reducible refine unx_i ?_
  | ((with_reducible refine cax_is (T := ?tt) (b := ?bb) ?ht ?hk ?_); (case ht => exact rfl); (case hk => walk_at "dty"))
  | ((refine cax_len (n := ?nn) ?hx ?_); (case hx => exact rfl))
  | with_reducible refine cax_abs ?_
  | with_reducible refine cax_int ?_
  | with_reducible refine cax_gcd ?_
  | with_reducible refine cax_max2 ?_
  | with_reducible refine cax_min2 ?_
  | ((with_reducible show OpX _ (rIx _) _ (D.at _) _ _); (refine opx_ixA (es := ?ee) (d := ?dd) ?h1 ?h2 ?_); (case h1 => first | assumption | exact mput_same); (case h2 => exact rfl))
  | ((with_reducible show OpX _ (rIx _) _ _ _ _); (refine opx_ix (es := ?ee) (d := ?dd) ?h1 ?h2 ?_); (case h1 => first | exact rfl | assumption); (case h2 => first | exact rfl | assumption))
  | (refine ⟨Nat.le_of_ble_eq_true rfl, ?_⟩)
  | with_reducible refine ⟨_, rfl, ?_⟩
  | ((refine ⟨?tt, ?bb, ?ht, ?hk, ?_⟩); (case ht => exact rfl); (case hk => walk_at "dtys"))
  | with_reducible refine ⟨_, _, rfl, ?_⟩
  | (refine ⟨rfl, ?_⟩))
/-- a side condition: known, or plain arithmetic -/
local macro_rules | `(tactic| walk_at "ds") => `(tactic| first | assumption | exact ⟨by decide, by decide⟩ | (exact by decide) | omega)
local macro_rules | `(tactic| walk_at "dix") => `(tactic| first | (exact rfl; exact rfl) | (first | assumption | exact rfl); (first | assumption | exact rfl))
local macro_rules | `(tactic| walk_at "dx") => `(tactic| ((repeat (walk_at "d1")); try dsimp only))
/-- as dx, but up to an if -/
local macro_rules | `(tactic| walk_at "dn") => `(tactic| ((repeat (walk_at "d2")); try dsimp only))
local macro_rules | `(tactic| walk_at "d0") => `(tactic| try dsimp only [cxOf, Cx.nox, Cx.wish, Cx.tr, Cx.suite])
local macro_rules | `(tactic| walk_at "dty") => `(tactic| first | exact kit_int_int | exact kit_int_bool | exact kit_int_str | exact kit_int_list | exact kit_int_tuple | exact kit_bool_bool | exact kit_bool_int | exact kit_bool_str | exact kit_str_str | exact kit_tuple_tuple | exact kit_tuple_list | exact kit_list_list | exact kit_list_tuple | exact kit_NoneType_int | exact kit_NoneType_bool | exact kit_NoneType_str | exact kit_NoneType_list | exact kit_tuple_str | exact kit_list_str | exact kit_str_bool | exact kit_str_int | exact kit_str_list | exact kit_str_tuple | exact kit_bool_list | exact kit_bool_tuple)
local macro_rules | `(tactic| walk_at "dtys") => `(tactic| first | exact kits_int_lt | exact kits_bool_lt | exact kits_str_lt | exact kits_tuple_lt | exact kits_list_lt | exact kits_NoneType_lt)
local macro_rules | `(tactic| walk_at "dz") => `(tactic| ((walk_at "dx"); (repeat ((first | refine ifY rfl ?_ | refine ifNo rfl ?_); walk_at "dx"))))
def top (i : Nat) : Stmt := PySem.Challenge.pw_textworths_k03_machines_refused.main.body.getD i (.Pass ⟨0, 0, 0, 0⟩)
abbrev s__wall : Stmt := top 1
theorem sc__wall : FnScope ["k"] ["k"] (defScope s__wall) := ⟨rfl, rfl, rfl, by decide +kernel, rfl, by decide +kernel, by decide +kernel⟩
abbrev s_WorthError___init__ : Stmt := inClass (top 3) 0
theorem sc_WorthError___init__ : FnScope ["self", "value"] ["self", "value"] (defScope s_WorthError___init__) := ⟨rfl, rfl, rfl, by decide +kernel, rfl, by decide +kernel, by decide +kernel⟩
abbrev s_lowest : Stmt := top 10
theorem sc_lowest : FnScope ["above", "below", "common"] ["above", "below"] (defScope s_lowest) := ⟨rfl, rfl, rfl, by decide +kernel, rfl, by decide +kernel, by decide +kernel⟩
abbrev s_is_number : Stmt := top 11
theorem sc_is_number : FnScope ["value", "above", "below"] ["value"] (defScope s_is_number) := ⟨rfl, rfl, rfl, by decide +kernel, rfl, by decide +kernel, by decide +kernel⟩
abbrev s_checked : Stmt := top 12
theorem sc_checked : FnScope ["value"] ["value"] (defScope s_checked) := ⟨rfl, rfl, rfl, by decide +kernel, rfl, by decide +kernel, by decide +kernel⟩
abbrev s_integers_of : Stmt := top 14
theorem sc_integers_of : FnScope ["row", "below", "number"] ["row"] (defScope s_integers_of) := ⟨rfl, rfl, rfl, by decide +kernel, rfl, by decide +kernel, by decide +kernel⟩
abbrev s_checked_signs : Stmt := top 17
theorem sc_checked_signs : FnScope ["signs", "last", "sign"] ["signs"] (defScope s_checked_signs) := ⟨rfl, rfl, rfl, by decide +kernel, rfl, by decide +kernel, by decide +kernel⟩
abbrev s_checked_sign : Stmt := top 18
theorem sc_checked_sign : FnScope ["sign", "signs"] ["sign", "signs"] (defScope s_checked_sign) := ⟨rfl, rfl, rfl, by decide +kernel, rfl, by decide +kernel, by decide +kernel⟩
abbrev s_known : Stmt := top 19
theorem sc_known : FnScope ["message", "signs", "sign"] ["message", "signs"] (defScope s_known) := ⟨rfl, rfl, rfl, by decide +kernel, rfl, by decide +kernel, by decide +kernel⟩
abbrev s_checked_machine : Stmt := top 21
theorem sc_checked_machine : FnScope ["signs", "begin", "roads", "end", "number", "road"] ["signs", "begin", "roads", "end"] (defScope s_checked_machine) := ⟨rfl, rfl, rfl, by decide +kernel, rfl, by decide +kernel, by decide +kernel⟩
abbrev s_steps_of : Stmt := top 22
theorem sc_steps_of : FnScope ["roads", "sign", "below", "road", "steps", "state", "other", "behind", "number"] ["roads", "sign"] (defScope s_steps_of) := ⟨rfl, rfl, rfl, by decide +kernel, rfl, by decide +kernel, by decide +kernel⟩
abbrev s_integers_behind : Stmt := top 23
theorem sc_integers_behind : FnScope ["steps", "integers", "found", "state", "behind", "integer"] ["steps", "integers"] (defScope s_integers_behind) := ⟨rfl, rfl, rfl, by decide +kernel, rfl, by decide +kernel, by decide +kernel⟩
abbrev s_Machine___init__ : Stmt := inClass (top 24) 0
theorem sc_Machine___init__ : FnScope ["self", "signs", "begin", "roads", "end", "sign"] ["self", "signs", "begin", "roads", "end"] (defScope s_Machine___init__) := ⟨rfl, rfl, rfl, by decide +kernel, rfl, by decide +kernel, by decide +kernel⟩
abbrev s_Machine_signs : Stmt := inClass (top 24) 1
theorem sc_Machine_signs : FnScope ["self"] ["self"] (defScope s_Machine_signs) := ⟨rfl, rfl, rfl, by decide +kernel, rfl, by decide +kernel, by decide +kernel⟩
abbrev s_Machine_begin : Stmt := inClass (top 24) 2
theorem sc_Machine_begin : FnScope ["self"] ["self"] (defScope s_Machine_begin) := ⟨rfl, rfl, rfl, by decide +kernel, rfl, by decide +kernel, by decide +kernel⟩
abbrev s_Machine_roads : Stmt := inClass (top 24) 3
theorem sc_Machine_roads : FnScope ["self"] ["self"] (defScope s_Machine_roads) := ⟨rfl, rfl, rfl, by decide +kernel, rfl, by decide +kernel, by decide +kernel⟩
abbrev s_Machine_end : Stmt := inClass (top 24) 4
theorem sc_Machine_end : FnScope ["self"] ["self"] (defScope s_Machine_end) := ⟨rfl, rfl, rfl, by decide +kernel, rfl, by decide +kernel, by decide +kernel⟩
abbrev s_Machine_steps : Stmt := inClass (top 24) 5
theorem sc_Machine_steps : FnScope ["self", "sign", "found", "below"] ["self", "sign"] (defScope s_Machine_steps) := ⟨rfl, rfl, rfl, by decide +kernel, rfl, by decide +kernel, by decide +kernel⟩
abbrev s_Machine___call__ : Stmt := inClass (top 24) 6
theorem sc_Machine___call__ : FnScope ["self", "message", "integers", "below", "sign", "steps", "share", "ends", "one", "other"] ["self", "message"] (defScope s_Machine___call__) := ⟨rfl, rfl, rfl, by decide +kernel, rfl, by decide +kernel, by decide +kernel⟩
abbrev s_Machine_courses : Stmt := inClass (top 24) 7
theorem sc_Machine_courses : FnScope ["self", "message"] ["self", "message"] (defScope s_Machine_courses) := ⟨rfl, rfl, rfl, by decide +kernel, rfl, by decide +kernel, by decide +kernel⟩
abbrev s_Machine___len__ : Stmt := inClass (top 24) 8
theorem sc_Machine___len__ : FnScope ["self"] ["self"] (defScope s_Machine___len__) := ⟨rfl, rfl, rfl, by decide +kernel, rfl, by decide +kernel, by decide +kernel⟩
abbrev s_Machine___eq__ : Stmt := inClass (top 24) 9
theorem sc_Machine___eq__ : FnScope ["self", "other"] ["self", "other"] (defScope s_Machine___eq__) := ⟨rfl, rfl, rfl, by decide +kernel, rfl, by decide +kernel, by decide +kernel⟩
abbrev s__law_deck : Stmt := top 26
theorem sc__law_deck : FnScope ["_law_script", "_law_mark", "_law_great", "_law_cell"] ["_law_script"] (defScope s__law_deck) := ⟨rfl, rfl, rfl, by decide +kernel, rfl, by decide +kernel, by decide +kernel⟩
abbrev s__law_draw : Stmt := top 27
theorem sc__law_draw : FnScope ["_law_deck_here", "_law_limit", "_law_found", "_law_stir"] ["_law_deck_here", "_law_limit"] (defScope s__law_draw) := ⟨rfl, rfl, rfl, by decide +kernel, rfl, by decide +kernel, by decide +kernel⟩
abbrev s__law_gcd : Stmt := top 28
theorem sc__law_gcd : FnScope ["_law_one", "_law_other"] ["_law_one", "_law_other"] (defScope s__law_gcd) := ⟨rfl, rfl, rfl, by decide +kernel, rfl, by decide +kernel, by decide +kernel⟩
abbrev s__law_pair : Stmt := top 29
theorem sc__law_pair : FnScope ["_law_above", "_law_below", "_law_common"] ["_law_above", "_law_below"] (defScope s__law_pair) := ⟨rfl, rfl, rfl, by decide +kernel, rfl, by decide +kernel, by decide +kernel⟩
abbrev s__law_alike : Stmt := top 30
theorem sc__law_alike : FnScope ["_law_found", "_law_due_here", "_law_one", "_law_other"] ["_law_found", "_law_due_here"] (defScope s__law_alike) := ⟨rfl, rfl, rfl, by decide +kernel, rfl, by decide +kernel, by decide +kernel⟩
abbrev s__law_signs : Stmt := top 31
theorem sc__law_signs : FnScope ["_law_deck_here", "_law_left", "_law_picked", "_law_letter", "_law_k"] ["_law_deck_here"] (defScope s__law_signs) := ⟨rfl, rfl, rfl, by decide +kernel, rfl, by decide +kernel, by decide +kernel⟩
abbrev s__law_number : Stmt := top 32
theorem sc__law_number : FnScope ["_law_deck_here", "_law_great"] ["_law_deck_here"] (defScope s__law_number) := ⟨rfl, rfl, rfl, by decide +kernel, rfl, by decide +kernel, by decide +kernel⟩
abbrev s__law_machine : Stmt := top 33
theorem sc__law_machine : FnScope ["_law_deck_here", "_law_signs_here", "_law_many", "_law_k", "_law_begin", "_law_roads", "_law_road"] ["_law_deck_here"] (defScope s__law_machine) := ⟨rfl, rfl, rfl, by decide +kernel, rfl, by decide +kernel, by decide +kernel⟩
abbrev s__law_wrong_signs : Stmt := top 34
theorem sc__law_wrong_signs : FnScope ["_law_deck_here", "_law_signs_here", "_law_place", "_law_kind", "_law_odd"] ["_law_deck_here", "_law_signs_here"] (defScope s__law_wrong_signs) := ⟨rfl, rfl, rfl, by decide +kernel, rfl, by decide +kernel, by decide +kernel⟩
abbrev s__law_wrong_number : Stmt := top 35
theorem sc__law_wrong_number : FnScope ["_law_deck_here", "_law_factor", "_law_wrong"] ["_law_deck_here"] (defScope s__law_wrong_number) := ⟨rfl, rfl, rfl, by decide +kernel, rfl, by decide +kernel, by decide +kernel⟩
abbrev s__law_wrong_sign : Stmt := top 36
theorem sc__law_wrong_sign : FnScope ["_law_deck_here", "_law_signs_here", "_law_left", "_law_other", "_law_one", "_law_letter"] ["_law_deck_here", "_law_signs_here"] (defScope s__law_wrong_sign) := ⟨rfl, rfl, rfl, by decide +kernel, rfl, by decide +kernel, by decide +kernel⟩
abbrev s__law_bent : Stmt := top 37
theorem sc__law_bent : FnScope ["_law_deck_here", "_law_parts", "_law_kind", "_law_signs_here", "_law_begin", "_law_roads", "_law_end", "_law_changed", "_law_place", "_law_state", "_law_sign", "_law_behind", "_law_number_here", "_law_far"] ["_law_deck_here", "_law_parts", "_law_kind"] (defScope s__law_bent) := ⟨rfl, rfl, rfl, by decide +kernel, rfl, by decide +kernel, by decide +kernel⟩
abbrev s__law_are_signs : Stmt := top 38
theorem sc__law_are_signs : FnScope ["_law_signs_here", "_law_k"] ["_law_signs_here"] (defScope s__law_are_signs) := ⟨rfl, rfl, rfl, by decide +kernel, rfl, by decide +kernel, by decide +kernel⟩
abbrev s__law_due : Stmt := top 39
theorem sc__law_due : FnScope ["_law_parts", "_law_signs_here", "_law_begin", "_law_roads", "_law_end", "_law_road", "_law_number_here"] ["_law_parts"] (defScope s__law_due) := ⟨rfl, rfl, rfl, by decide +kernel, rfl, by decide +kernel, by decide +kernel⟩
abbrev s__law_told : Stmt := top 40
theorem sc__law_told : FnScope ["_law_parts", "_law_by_name", "_law_signs_here", "_law_begin", "_law_roads", "_law_end", "_law_made", "_law_caught", "e", "_law_kinds", "_law_names", "_law_told_here", "_law_k"] ["_law_parts", "_law_by_name"] (defScope s__law_told) := ⟨rfl, rfl, rfl, by decide +kernel, rfl, by decide +kernel, by decide +kernel⟩
abbrev s__law_is_right : Stmt := top 41
theorem sc__law_is_right : FnScope ["_law_deck_here", "_law_parts", "_law_handed", "_law_due_here", "_law_made", "_law_told_here", "_law_found"] ["_law_deck_here", "_law_parts"] (defScope s__law_is_right) := ⟨rfl, rfl, rfl, by decide +kernel, rfl, by decide +kernel, by decide +kernel⟩
abbrev s_law : Stmt := top 42
theorem sc_law : FnScope ["_law_script", "_law_deck_here", "_law_turn", "_law_parts", "_law_bent_here", "_law_k"] ["_law_script"] (defScope s_law) := ⟨rfl, rfl, rfl, by decide +kernel, rfl, by decide +kernel, by decide +kernel⟩
/-- the number of two ints -/
def lowC (a b : Int) : Int := if b < 0 then -((Nat.gcd a.natAbs b.natAbs : Nat) : Int) else ((Nat.gcd a.natAbs b.natAbs : Nat) : Int)
def lowD (a b : Int) : D := .tup [.int (a.fdiv (lowC a b)), .int (b.fdiv (lowC a b))]
def P_lowest : PD := fun μ ds post _ => ∃ a b : Int, ds = [.int a, .int b] ∧ b ≠ 0 ∧ b.natAbs < 2 ^ 9000 ∧ post μ (lowD a b)
section
variable {P : Program} {w : World} {K : PySem.W.Frag} {mg : Str → Option Value} {base : Heap}
theorem lowC_ok {a b : Int} (h : b ≠ 0) (hb : b.natAbs < 2 ^ 9000) : CDivB a (lowC a b) := by
  have h0 : 0 < Nat.gcd a.natAbs b.natAbs := Nat.gcd_pos_of_pos_right _ (by omega)
  have h1 : Nat.gcd a.natAbs b.natAbs ≤ b.natAbs := Nat.gcd_le_right _ (by omega)
  unfold CDivB lowC
  split <;> refine ⟨by omega, by omega⟩
theorem c_lowest (h : Std K mg "lowest" s_lowest) (m_gcd : mg "gcd" = some (.builtin "math.gcd")) : Cal P w K mg base CX0 1 "lowest" s_lowest ["above", "below"] (spD K 2 P_lowest) := by
  refine cal0 h sc_lowest (fun _ _ _ _ _ _ us hl => match us, hl with | [_, _], _ => rfl) fun f cdv A outer s H E hr => ⟨_,
    (pss_cons (ps_set (i := 2) sc_lowest.nd rfl (Or.inl rfl) (pe_callBfun cr_gcd (by rfl) m_gcd (pa_cons (pv 0) (pa_cons (pv 1) pa_nil))))
 (pss_cons (ps_if (pt_cmpR op_lt (pv 1) pe_int (nomark _))
 (pss_one (ps_set (i := 2) sc_lowest.nd rfl (Or.inl rfl) (pe_un un_neg (pv 2))))
 pss_nil)
 (pss_one (ps_ret (pe_tup (pa_cons (pe_op op_divB (pv 0) (pv 2)) (pa_cons (pe_op op_divB (pv 1) (pv 2)) pa_nil))))))), fun μ ds post exc hl hP => ?_⟩
  obtain ⟨a, b, rfl, h0, hb, hp⟩ := hP
  have hd := lowC_ok (a := a) h0 hb
  have hd2 : CDivB b (lowC a b) := hd
  unfold lowD lowC at *
  walk_at "dx"
  refine ifD (fun hn => ?_) (fun hn => ?_)
  · rw [if_pos hn] at hd hd2 hp
    walk_at "dx"
    exact hp
  · rw [if_neg hn] at hd hd2 hp
    walk_at "dx"
    exact hp
end
def P_gcd : PD := fun μ ds post _ => ∃ a b : Int, ds = [.int a, .int b] ∧ post μ (.int (Nat.gcd a.natAbs b.natAbs : Nat))
section
variable {P : Program} {w : World} {K : PySem.W.Frag} {mg : Str → Option Value} {base : Heap}
theorem abs_if (a : Int) : (if a < 0 then -a else a) = (a.natAbs : Int) := by split <;> omega
theorem c_gcd (h : Std K mg "_law_gcd" s__law_gcd) (n_abs : mg "abs" = none) (n_int : mg "int" = none) : Cal P w K mg base CX0 1 "_law_gcd" s__law_gcd ["_law_one", "_law_other"] (spD K 2 P_gcd) := by
  refine cal0 h sc__law_gcd (fun _ _ _ _ _ _ us hl => match us, hl with | [_, _], _ => rfl) fun f cdv A outer s H E hr => ⟨_,
    have hu64 := hr.units; (pss_cons (ps_par (i := 0) (j := 1) rfl sc__law_gcd.nd rfl rfl (by decide) rfl rfl (pa_cons (pe_callB call_abs (by rfl) n_abs (by decide +kernel) (pa_cons (pv 0) pa_nil)) (pa_cons (pe_callB call_abs (by rfl) n_abs (by decide +kernel) (pa_cons (pv 1) pa_nil)) pa_nil)) (by rfl))
 (pss_cons (ps_while PassesOwn.never (pt_cmpR (op_neU hu64) (pv 1) pe_int (nomark _))
 (pss_one (ps_par (i := 0) (j := 1) rfl sc__law_gcd.nd rfl rfl (by decide) rfl rfl (pa_cons (pv 1) (pa_cons (pe_op op_modN (pe_callTy call_int1 (by rfl) n_int (by decide +kernel) (pa_cons (pv 0) pa_nil)) (pv 1)) pa_nil)) (by rfl))))
 (pss_one (ps_ret (pv 0))))), fun μ ds post exc hl hP => ?_⟩
  obtain ⟨a, b, rfl, hp⟩ := hP
  walk_at "dx"
  rw [abs_if, abs_if]
  refine (gs_while (fun m μ' ρ' => ∃ x : Nat, μ' = μ ∧ ρ' = [some (.int x), some (.int m)] ∧ Nat.gcd x m = Nat.gcd a.natAbs b.natAbs) b.natAbs ⟨a.natAbs, rfl, rfl, rfl⟩ ?_)
  rintro y μ' ρ' ⟨x, rfl, rfl, hg⟩
  walk_at "dx"
  refine ifN (fun hn => ?_) (fun hn => ?_)
  · have hy : (y : Int) ≠ 0 := hn
    walk_at "dx"
    refine ⟨x % y, Nat.mod_lt _ (by omega), y, rfl, ?_, ?_⟩
    · rw [Int.fmod_eq_emod_of_nonneg _ (by omega)]
      rfl
    · rw [← hg, Nat.gcd_comm y, ← Nat.gcd_rec, Nat.gcd_comm]
  · walk_at "dx"
    have : y = 0 := by omega
    subst this
    rw [Nat.gcd_zero_right] at hg
    rw [hg]
    exact hp
theorem c_pair (h : Std K mg "_law_pair" s__law_pair) (C__law_gcd : Cal P w K mg base CX0 1 "_law_gcd" s__law_gcd ["_law_one", "_law_other"] (spD K 2 P_gcd)) : Cal P w K mg base CX0 2 "_law_pair" s__law_pair ["_law_above", "_law_below"] (spD K 2 P_lowest) := by
  refine cal0 h sc__law_pair (fun _ _ _ _ _ _ us hl => match us, hl with | [_, _], _ => rfl) fun f cdv A outer s H E hr => ⟨_,
    (pss_cons (ps_set (i := 2) sc__law_pair.nd rfl (Or.inl rfl) (pe_c C__law_gcd hr (by first | decide | omega) (pa_cons (pv 0) (pa_cons (pv 1) pa_nil))))
 (pss_cons (ps_if (pt_cmpR op_lt (pv 1) pe_int (nomark _))
 (pss_one (ps_set (i := 2) sc__law_pair.nd rfl (Or.inl rfl) (pe_op op_sub pe_int (pv 2))))
 pss_nil)
 (pss_one (ps_ret (pe_tup (pa_cons (pe_op op_divB (pv 0) (pv 2)) (pa_cons (pe_op op_divB (pv 1) (pv 2)) pa_nil))))))), fun μ ds post exc hl hP => ?_⟩
  obtain ⟨a, b, rfl, h0, hb, hp⟩ := hP
  have hd := lowC_ok (a := a) h0 hb
  have hd2 : CDivB b (lowC a b) := hd
  unfold lowD lowC at *
  walk_at "dx"
  refine ⟨a, b, rfl, ?_⟩
  walk_at "dx"
  refine ifD (fun hn => ?_) (fun hn => ?_)
  · rw [if_pos hn, ← Int.zero_sub] at hd hd2 hp
    walk_at "dx"
    exact hp
  · rw [if_neg hn] at hd hd2 hp
    walk_at "dx"
    exact hp
end
def P_deck : PD := fun μ ds post _ => ∃ ns : List Int, ds = [.frz (ns.map D.int)] ∧ ns.length ≤ 63 ∧ (∀ n ∈ ns, n.natAbs < 2 ^ 1048576) ∧
  ∀ μ' a g, Deck a g 0 μ' → But a g μ μ' → μ a = none → μ g = none → post μ' (.at a)
def P_draw : PD := fun μ ds post _ => ∃ (a g : Addr) (c n : Int), ds = [.at a, .int n] ∧ Deck a g c μ ∧ c ≤ 1000000 ∧ 0 < n ∧ n.natAbs < 2 ^ 9000 ∧
  ∀ μ' x, 0 ≤ x → x < n → Deck a g (c + 1) μ' → But a g μ μ' → post μ' (.int x)
theorem fmod_nn {x n : Int} (h : 0 < n) : 0 ≤ x.fmod n ∧ x.fmod n < n := by
  rw [Int.fmod_eq_emod_of_nonneg _ (by omega)]
  exact ⟨Int.emod_nonneg _ (by omega), Int.emod_lt_of_pos _ h⟩
theorem fdiv_nn {x n : Int} {b : Nat} (h : 0 < n) (hx : 0 ≤ x) (hb : x.natAbs < b) : 0 ≤ x.fdiv n ∧ (x.fdiv n).natAbs < b := by
  rw [Int.fdiv_eq_ediv_of_nonneg _ (by omega)]
  have h1 := Int.ediv_nonneg hx (Int.le_of_lt h)
  have h2 : x / n ≤ x := Int.ediv_le_self _ hx
  omega
theorem p10_18 : (10 : Int) ^ (18 : Int).toNat = 1000000000000000000 := by decide
section
variable {P : Program} {w : World} {K : PySem.W.Frag} {mg : Str → Option Value} {base : Heap}
theorem pow_lt {n : Int} (a : Nat) (h0 : 0 ≤ n) (h : n < 2 ^ a) : n.natAbs < 2 ^ a := by
  have : ((n.natAbs : Nat) : Int) = n := by omega
  have h2 : ((n.natAbs : Nat) : Int) < ((2 ^ a : Nat) : Int) := by
    rw [this, Int.natCast_pow]; exact h
  exact Int.ofNat_lt.mp h2
theorem big_sub {n : Int} (h : n.natAbs < 2 ^ 1048576) : (n - 1000000000000000000).natAbs < 2 ^ 1048577 := by
  have e : (2 : Nat) ^ 1048577 = 2 ^ 1048576 * 2 := Nat.pow_succ ..
  have h2 : 2 ^ 64 ≤ (2 : Nat) ^ 1048576 := Nat.pow_le_pow_right (by decide) (by decide)
  have h3 : (1000000000000000000 : Nat) ≤ 2 ^ 64 := by decide
  generalize (2 : Nat) ^ 1048577 = A at *
  generalize (2 : Nat) ^ 1048576 = B at *
  generalize (2 : Nat) ^ 64 = C at *
  omega
theorem mark_ok (x : Int) : 0 ≤ x.fmod 1000000000000000003 + 1 ∧ x.fmod 1000000000000000003 + 1 ≤ 1000000000000000003 := by
  have := fmod_nn (x := x) (n := 1000000000000000003) (by decide)
  omega
theorem c_deck (h : Std K mg "_law_deck" s__law_deck) (n_int : mg "int" = none) : Cal P w K mg base CX0 1 "_law_deck" s__law_deck ["_law_script"] (spD K 1 P_deck) := by
  refine cal0 h sc__law_deck (fun _ _ _ _ _ _ us hl => match us, hl with | [_], _ => rfl) fun f cdv A outer s H E hr => ⟨_,
    have hu64 := hr.units; (pss_cons (ps_par (i := 1) (j := 2) rfl sc__law_deck.nd rfl rfl (by decide) rfl rfl (pa_cons pe_int (pa_cons (pe_lst pa_nil) pa_nil)) (by rfl))
 (pss_cons (ps_for PassesOwn.never rfl (pi_list (pv 0)) (pg_name (i := 3) sc__law_deck.nd rfl (Or.inl rfl))
 (pss_one (ps_if (pt_cmpR op_ge (pv 3) (pe_op op_powB pe_int pe_int) (nomark _))
 (pss_one (ps_expr (pe_bm PySem.F.plainAttrs_list PySem.F.slot_list_insert PySem.F.type_list_insert mt_insert (pv 2) (pa_cons pe_int (pa_cons (pe_op op_sub (pv 3) (pe_op op_powB pe_int pe_int)) pa_nil)))))
 (pss_one (ps_set (i := 1) sc__law_deck.nd rfl (Or.inl rfl) (pe_op op_addU (pe_op op_modN (pe_callTy call_int1 (by rfl) n_int (by decide +kernel) (pa_cons (pe_op op_powB (pe_op op_addU (pv 1) (pe_op op_modN (pe_callTy call_int1 (by rfl) n_int (by decide +kernel) (pa_cons (pv 3) pa_nil)) pe_int)) pe_int) pa_nil)) pe_int) pe_int))))))
 (pss_one (ps_ret (pe_lst (pa_cons (pv 2) (pa_cons pe_int (pa_cons (pv 1) (pa_cons pe_int pa_nil))))))))), fun μ ds post exc hl hP => ?_⟩
  obtain ⟨ns, rfl, hn63, hbits, hp⟩ := hP
  walk_at "dx"
  refine evx_lstM ?_
  walk_at "dx"
  intro g hg
  walk_at "dx"
  refine gs_for (itx_list ?_)
  walk_at "dx"
  refine ⟨_, _, isL_frz, ?_⟩
  refine ⟨fun i μ' ρ' => ∃ (gs : List Int) (m : Int) (v : Option D), ρ' = [some (.frz (ns.map D.int)), some (.int m), some (.at g), v] ∧ μ' g = some (.lst (gs.map D.int)) ∧ (∀ b, b ≠ g → μ' b = μ b) ∧
    (∀ x ∈ gs, 0 ≤ x ∧ x.natAbs < 2 ^ 1048577) ∧ gs.length ≤ i ∧ 0 ≤ m ∧ m ≤ 1000000000000000003, ⟨[], 40961, none, rfl, mput_same, fun b hb => mput_ne hb, List.forall_mem_nil _, Nat.le_refl _, by decide, by decide⟩, fun _ _ _ _ _ => True.intro, ?_, ?_⟩
  · rintro i d μ' ρ' hd ⟨gs, m, v, rfl, h1, h2, h3, h4, h5, h6⟩
    have hi : i < (ns.map D.int).length := (List.getElem?_eq_some_iff.mp hd).1
    rw [List.length_map] at hi
    obtain ⟨n, hn, rfl⟩ : ∃ n ∈ ns, d = .int n := by
      have := List.mem_of_getElem? hd
      obtain ⟨n, hn, rfl⟩ := List.mem_map.mp this
      exact ⟨n, hn, rfl⟩
    have hb := hbits n hn
    have p1 : CPowB 10 18 := ⟨by decide, 4, by decide, by decide⟩
    have f1 := fmod_nn (x := n) (n := 1000000000039) (by decide)
    have p2 : CPowB (m + n.fmod 1000000000039) 3 := ⟨by decide, 64, by omega, by decide⟩
    walk_at "dx"
    rw [p10_18]
    refine ifD (fun hc => ?_) (fun hc => ?_)
    · walk_at "dx"
      refine evx_ins0 ?_
      walk_at "dx"
      refine ⟨g, _, rfl, h1, ?_⟩
      walk_at "dx"
      rw [p10_18]
      refine ⟨_, h1, by rw [List.length_map]; omega, (n - 1000000000000000000) :: gs, m, _, rfl, mput_same, fun b hb => (mput_ne hb).trans (h2 b hb), ?_, ?_, h5, h6⟩
      · intro x hx
        rcases List.mem_cons.mp hx with rfl | hx
        · exact ⟨by omega, big_sub hb⟩
        · exact h3 x hx
      · rw [List.length_cons]; omega
    · walk_at "dx"
      have := mark_ok ((m + n.fmod 1000000000039) ^ (3 : Int).toNat)
      exact ⟨gs, _, _, rfl, h1, h2, h3, by omega, this.1, this.2⟩
  · rintro μ' ρ' ⟨gs, m, v, rfl, h1, h2, h3, h4, h5, h6⟩
    walk_at "dx"
    refine evx_lstM ?_
    walk_at "dx"
    intro a ha
    have hne : a ≠ g := fun z => by rw [z, h1] at ha; cases ha
    refine hp _ a g ⟨gs, 0, m, 0, hne, mput_same, by rw [mput_ne (Ne.symm hne)]; exact h1, h3, by decide, Nat.two_pow_pos _, h5, h6, by decide, by decide⟩ (fun b hb hb2 => (mput_ne hb).trans (h2 b hb2)) (by rw [← h2 a hne]; exact ha) hg
end
section
variable {P : Program} {w : World} {K : PySem.W.Frag} {mg : Str → Option Value} {base : Heap}
theorem getLast_map {gs : List Int} (h : gs ≠ []) : ∃ x, x ∈ gs ∧ (gs.map D.int).getLast? = some (.int x) ∧ (gs.map D.int).dropLast = (gs.dropLast).map D.int := by
  refine ⟨gs.getLast h, List.getLast_mem h, ?_, ?_⟩
  · rw [List.getLast?_map, List.getLast?_eq_some_getLast h]
    rfl
  · rw [List.map_dropLast]
theorem c_draw (h : Std K mg "_law_draw" s__law_draw) (n_int : mg "int" = none) : Cal P w K mg base CX0 1 "_law_draw" s__law_draw ["_law_deck_here", "_law_limit"] (spD K 2 P_draw) := by
  refine cal0 h sc__law_draw (fun _ _ _ _ _ _ us hl => match us, hl with | [_, _], _ => rfl) fun f cdv A outer s H E hr => ⟨_,
    have hu64 := hr.units; (pss_cons (ps_if (PW.pt (pw_and (pt_cmpR (op_eqU hu64) (pe_ix ix_seq (pv 0) pe_int (fun _ _ => rfl)) pe_int (nomark _)) (pw_and1 (pt_cmpR (op_neU hu64) (pe_ix ix_seq (pv 0) pe_int (fun _ _ => rfl)) (pe_lst pa_nil) (nomark _)))))
 (pss_one (ps_asg (pe_bm0 PySem.F.plainAttrs_list PySem.F.slot_list_pop PySem.F.type_list_pop mt_pop (pe_ix ix_seq (pv 0) pe_int (fun _ _ => rfl))) (pg_sub (pv 0) pe_int set_list)))
 pss_nil)
 (pss_cons (ps_if (pt_cmpR op_gt (pe_ix ix_seq (pv 0) pe_int (fun _ _ => rfl)) pe_int (nomark _))
 (pss_cons (ps_set (i := 2) sc__law_draw.nd rfl (Or.inl rfl) (pe_op op_modN (pe_callTy call_int1 (by rfl) n_int (by decide +kernel) (pa_cons (pe_ix ix_seq (pv 0) pe_int (fun _ _ => rfl)) pa_nil)) (pv 1)))
 (pss_cons (ps_asg (pe_op op_divB (pe_ix ix_seq (pv 0) pe_int (fun _ _ => rfl)) (pv 1)) (pg_sub (pv 0) pe_int set_list))
 (pss_one (ps_ret (pv 2)))))
 pss_nil)
 (pss_cons (ps_asg (pe_op op_addU (pe_ix ix_seq (pv 0) pe_int (fun _ _ => rfl)) pe_int) (pg_sub (pv 0) pe_int set_list))
 (pss_cons (ps_set (i := 3) sc__law_draw.nd rfl (Or.inl rfl) (pe_op op_modN (pe_callTy call_int1 (by rfl) n_int (by decide +kernel) (pa_cons (pe_op op_powB (pe_op op_addU (pe_ix ix_seq (pv 0) pe_int (fun _ _ => rfl)) (pe_op op_mulU (pe_op op_mulU pe_int (pe_ix ix_seq (pv 0) pe_int (fun _ _ => rfl))) (pe_ix ix_seq (pv 0) pe_int (fun _ _ => rfl)))) pe_int) pa_nil)) pe_int))
 (pss_one (ps_ret (pe_op op_modN (pe_op op_divB (pe_op op_modN (pe_callTy call_int1 (by rfl) n_int (by decide +kernel) (pa_cons (pe_op op_mulU (pv 3) (pe_op op_addU (pv 3) pe_int)) pa_nil)) pe_int) pe_int) (pv 1)))))))), fun μ ds post exc hl hP => ?_⟩
  obtain ⟨a, g, c, n, rfl, D0, hc, hn, hn2, hp⟩ := hP
  walk_at "d0"
  refine gs_mid (fun μ' ρ' => Deck a g c μ' ∧ But a g μ μ' ∧ ρ' = [some (.at a), some (.int n), none, none]) ?_ ?_
  · obtain ⟨gs, o, m, k, d⟩ := D0
    have ha := d.ha
    walk_at "dx"
    refine ifD (fun h0 => ?_) (fun h0 => ?_)
    · walk_at "dx"
      refine evx_lst ?_
      walk_at "dx"
      refine opx_r (opx_neD ?_ ?_ ?_ ?_ ?_)
      · rw [see_at d.hg]; exact ints_plain gs
      · rw [see_at d.hg]; exact ints_shaped gs
      · rfl
      · rfl
      · have e : eqD (seeD μ (.at g)) (seeD μ (.lst [])) = gs.isEmpty := by
          rw [see_at d.hg]; exact eqD_nil gs
        rw [e]
        walk_at "dx"
        cases he : gs.isEmpty with
        | true =>
          refine ifNo rfl ?_
          walk_at "dx"
          exact ⟨⟨gs, o, m, k, d⟩, But.refl _ _ _, rfl⟩
        | false =>
          refine ifY rfl ?_
          have hne : gs ≠ [] := fun z => by rw [z] at he; cases he
          obtain ⟨x, hx, hx2, hx3⟩ := getLast_map hne
          walk_at "dx"
          refine evx_pop ?_
          walk_at "dx"
          refine ⟨g, _, _, rfl, d.hg, hx2, ?_⟩
          refine tgx_subA (a := a) (k := 1) (j := 1) (by rw [mput_ne d.ne]; exact ha) rfl ?_ (fun Ψ q => by walk_at "dx"; exact q) (fun Ψ q => by walk_at "dx"; exact q)
          refine ⟨⟨gs.dropLast, x, m, k, d.ne, mput_same, by rw [mput_ne (Ne.symm d.ne), mput_same, hx3], fun y hy => d.gs y ((List.dropLast_sublist gs).subset hy), (d.gs x hx).1, (d.gs x hx).2, d.m0, d.m1, d.k0, d.k1⟩, But.put2.trans But.put1, rfl⟩
    · refine ifNo rfl ?_
      walk_at "dx"
      exact ⟨⟨gs, o, m, k, d⟩, But.refl _ _ _, rfl⟩
  · rintro μ1 ρ1 ⟨⟨gs, o, m, k, d⟩, hb, rfl⟩
    have ha := d.ha
    have hn0 : n ≠ 0 := by omega
    have hdv : CDivB o n := ⟨hn0, hn2⟩
    walk_at "dx"
    refine ifD (fun h0 => ?_) (fun h0 => ?_)
    · walk_at "dx"
      have f1 := fmod_nn (x := o) hn
      have f2 := fdiv_nn hn d.o0 d.o1
      refine tgx_subA (a := a) (k := 1) (j := 1) ha rfl ?_ (fun Ψ q => by walk_at "dx"; exact q) (fun Ψ q => by walk_at "dx"; exact q)
      walk_at "dx"
      refine hp _ _ f1.1 f1.2 ⟨gs, _, m, k, d.ne, mput_same, by rw [mput_ne (Ne.symm d.ne)]; exact d.hg, d.gs, f2.1, f2.2, d.m0, d.m1, d.k0, by have := d.k1; omega⟩ (hb.trans But.put1)
    · walk_at "dx"
      refine tgx_subA (a := a) (k := 3) (j := 3) ha rfl ?_ (fun Ψ q => by walk_at "dx"; exact q) (fun Ψ q => by walk_at "dx"; exact q)
      have hk1 : k + 1 ≤ 1000001 := by have := d.k1; omega
      have hk0 := d.k0
      have hm0 := d.m0
      have hm1 := d.m1
      have e1 : (7907 * (k + 1)).natAbs < 2 ^ 64 := by omega
      have e2 : (k + 1).natAbs < 2 ^ 64 := by omega
      have c1 : CMulB 7907 (k + 1) := ⟨64, 64, by decide, e2, by decide⟩
      have c2 : CMulB (7907 * (k + 1)) (k + 1) := ⟨64, 64, e1, e2, by decide⟩
      have q0 : 0 ≤ 7907 * (k + 1) * (k + 1) := Int.mul_nonneg (by omega) (by omega)
      have q1 : 7907 * (k + 1) * (k + 1) ≤ 7907 * 1000001 * 1000001 := Int.mul_le_mul (by omega) (by omega) (by omega) (by omega)
      have c3 : CPowB (m + 7907 * (k + 1) * (k + 1)) 2 := ⟨by decide, 64, by omega, by decide⟩
      walk_at "dx"
      generalize ((m + 7907 * (k + 1) * (k + 1)) ^ (2 : Int).toNat) = z
      have f1 := fmod_nn (x := z) (n := 1000000000000000000000007) (by decide)
      generalize z.fmod 1000000000000000000000007 = t at f1 ⊢
      have c4 : CMulB t (t + 41) := ⟨100, 100, by omega, by omega, by decide⟩
      walk_at "dx"
      generalize t * (t + 41) = u
      have f2 := fmod_nn (x := u) (n := 1000000000000000000117) (by decide)
      generalize u.fmod 1000000000000000000117 = v at f2 ⊢
      have c5 : CDivB v 1009 := ⟨by decide, by decide⟩
      walk_at "dx"
      have f3 := fmod_nn (x := v.fdiv 1009) hn
      refine hp _ _ f3.1 f3.2 ⟨gs, o, m, k + 1, d.ne, mput_same, by rw [mput_ne (Ne.symm d.ne)]; exact d.hg, d.gs, d.o0, d.o1, d.m0, d.m1, by omega, by have := d.k1; omega⟩ (hb.trans But.put1)
end
section
variable {P : Program} {w : World} {K : PySem.W.Frag} {mg : Str → Option Value} {base : Heap}
theorem c_alike (h : Std K mg "_law_alike" s__law_alike) (n_isinstance : mg "isinstance" = none) (n_list : mg "list" = none) (n_tuple : mg "tuple" = none) (n_len : mg "len" = none) (n_zip : mg "zip" = none) (n_str : mg "str" = none) (n_bool : mg "bool" = none) (n_int : mg "int" = none) :
    ∀ n, Cal P w K mg base CX0 n "_law_alike" s__law_alike ["_law_found", "_law_due_here"] (spD K 2 (P_alike n))
  | 0 => cal_false (n := 2) h (fun _ _ _ _ _ _ us hl => match us, hl with | [_, _], _ => rfl)
  | n + 1 => by
    have C__law_alike := c_alike h n_isinstance n_list n_tuple n_len n_zip n_str n_bool n_int n
    refine cal0 h sc__law_alike (fun _ _ _ _ _ _ us hl => match us, hl with | [_, _], _ => rfl) fun f cdv A outer s H E hr => ⟨_,
      have hu64 := hr.units; (pss_cons (ps_if (pt_cmp (pc_isN (pv 1)))
 (pss_one (ps_ret (pe_cmp (pc_isN (pv 0)) rfl)))
 pss_nil)
 (pss_cons (ps_if (pt_val (pe_callB call_isU (by rfl) n_isinstance (by decide +kernel) (pa_cons (pv 1) (pa_cons (pe_tup (pa_cons (pe_bltn (v := .ty "list") (by rfl) n_list (by decide +kernel) rfl) (pa_cons (pe_bltn (v := .ty "tuple") (by rfl) n_tuple (by decide +kernel) rfl) pa_nil))) pa_nil))))
 (pss_cons (ps_if (PW.pt (pw_or (pt_not (pt_val (pe_callB call_isU (by rfl) n_isinstance (by decide +kernel) (pa_cons (pv 0) (pa_cons (pe_tup (pa_cons (pe_bltn (v := .ty "list") (by rfl) n_list (by decide +kernel) rfl) (pa_cons (pe_bltn (v := .ty "tuple") (by rfl) n_tuple (by decide +kernel) rfl) pa_nil))) pa_nil))))) (pw_or1 (pt_cmpR (op_neU hu64) (pe_callB call_isU (by rfl) n_isinstance (by decide +kernel) (pa_cons (pv 0) (pa_cons (pe_bltn (v := .ty "list") (by rfl) n_list (by decide +kernel) rfl) pa_nil))) (pe_callB call_isU (by rfl) n_isinstance (by decide +kernel) (pa_cons (pv 1) (pa_cons (pe_bltn (v := .ty "list") (by rfl) n_list (by decide +kernel) rfl) pa_nil))) (nomark _)))))
 (pss_one (ps_ret pe_bl))
 pss_nil)
 (pss_cons (ps_if (pt_cmpR (op_neU hu64) (pe_callB call_len (by rfl) n_len (by decide +kernel) (pa_cons (pv 0) pa_nil)) (pe_callB call_len (by rfl) n_len (by decide +kernel) (pa_cons (pv 1) pa_nil)) (nomark _))
 (pss_one (ps_ret pe_bl))
 pss_nil)
 (pss_cons (ps_for PassesOwn.never rfl (pi_zipA (by rfl) n_zip (pa_cons (pv 0) (pa_cons (pv 1) pa_nil))) (pg_tup rfl (pgs_cons (pg_name (i := 2) sc__law_alike.nd rfl (Or.inl rfl)) (pgs_cons (pg_name (i := 3) sc__law_alike.nd rfl (Or.inl rfl)) pgs_nil)))
 (pss_one (ps_if (pt_not (pt_val (pe_c C__law_alike hr (by first | decide | omega) (pa_cons (pv 2) (pa_cons (pv 3) pa_nil)))))
 (pss_one (ps_ret pe_bl))
 pss_nil)))
 (pss_one (ps_ret pe_bl)))))
 pss_nil)
 (pss_cons (ps_if (pt_val (pe_callB call_isU (by rfl) n_isinstance (by decide +kernel) (pa_cons (pv 1) (pa_cons (pe_bltn (v := .ty "str") (by rfl) n_str (by decide +kernel) rfl) pa_nil))))
 (pss_one (ps_ret (pe_and (pe_callB call_isU (by rfl) n_isinstance (by decide +kernel) (pa_cons (pv 0) (pa_cons (pe_bltn (v := .ty "str") (by rfl) n_str (by decide +kernel) rfl) pa_nil))) (pe_one (pe_cmpR (op_eqU hu64) (pv 0) (pv 1) (nomark _))))))
 pss_nil)
 (pss_cons (ps_if (pt_cmpR (op_neU hu64) (pe_callB call_isU (by rfl) n_isinstance (by decide +kernel) (pa_cons (pv 0) (pa_cons (pe_bltn (v := .ty "bool") (by rfl) n_bool (by decide +kernel) rfl) pa_nil))) (pe_callB call_isU (by rfl) n_isinstance (by decide +kernel) (pa_cons (pv 1) (pa_cons (pe_bltn (v := .ty "bool") (by rfl) n_bool (by decide +kernel) rfl) pa_nil))) (nomark _))
 (pss_one (ps_ret pe_bl))
 pss_nil)
 (pss_one (ps_ret (pe_and (pe_callB call_isU (by rfl) n_isinstance (by decide +kernel) (pa_cons (pv 0) (pa_cons (pe_bltn (v := .ty "int") (by rfl) n_int (by decide +kernel) rfl) pa_nil))) (pe_one (pe_cmpR (op_eqU hu64) (pv 0) (pv 1) (nomark _)))))))))), fun μ ds post exc hl hP => ?_⟩
    obtain ⟨d, rfl, had, hp⟩ := hP
    walk_at "d0"
    cases d
    case non =>
      walk_at "dz"
      exact hp
    case bl b =>
      walk_at "dz"
      rw [decide_eq_true rfl]
      exact hp
    case int i =>
      walk_at "dz"
      rw [decide_eq_true rfl]
      exact hp
    case str z =>
      walk_at "dz"
      rw [decide_eq_true rfl]
      exact hp
    case tup ds =>
      cases n with
      | zero => cases had
      | succ m =>
        have ha : ds.all (alD m) = true ∧ ds.length ≤ 1000000 := by
          have q : (ds.all (alD m) && decide (ds.length ≤ 1000000)) = true := had
          rw [Bool.and_eq_true] at q
          exact ⟨q.1, of_decide_eq_true q.2⟩
        walk_at "dz"
        refine ifN (fun z => absurd rfl z) (fun _ => ?_)
        walk_at "dz"
        refine gs_for (itx_zip ?_)
        walk_at "dx"
        refine ⟨_, _, _, _, rfl, .inr ⟨rfl, rfl⟩, ?_⟩
        refine ⟨fun i μ' ρ' => μ' = μ ∧ ∃ u v, ρ' = [some (.tup ds), some (.tup ds), u, v], ⟨rfl, none, none, rfl⟩, fun _ _ _ _ _ => True.intro, ?_, ?_⟩
        · rintro i d μ' ρ' hd ⟨rfl, u, v, rfl⟩
          obtain ⟨x, hx, rfl⟩ := pairs_same hd
          walk_at "dx"
          refine ⟨x, rfl, List.all_eq_true.mp ha.1 x hx, ?_⟩
          walk_at "dz"
          exact ⟨_, _, rfl⟩
        · rintro μ' ρ' ⟨rfl, u, v, rfl⟩
          walk_at "dz"
          exact hp
    case lst ds =>
      cases n with
      | zero => cases had
      | succ m =>
        have ha : ds.all (alD m) = true ∧ ds.length ≤ 1000000 := by
          have q : (ds.all (alD m) && decide (ds.length ≤ 1000000)) = true := had
          rw [Bool.and_eq_true] at q
          exact ⟨q.1, of_decide_eq_true q.2⟩
        walk_at "dz"
        refine ifN (fun z => absurd rfl z) (fun _ => ?_)
        walk_at "dz"
        refine gs_for (itx_zip ?_)
        walk_at "dx"
        refine ⟨_, _, _, _, rfl, .inl ⟨_, _, isL_lst, isL_lst, fun _ => True.intro, fun _ => True.intro⟩, ?_⟩
        refine ⟨fun i μ' ρ' => μ' = μ ∧ ∃ u v, ρ' = [some (.lst ds), some (.lst ds), u, v], ⟨rfl, none, none, rfl⟩, fun _ _ _ _ _ => True.intro, ?_, ?_⟩
        · rintro i d μ' ρ' hd ⟨rfl, u, v, rfl⟩
          obtain ⟨x, hx, rfl⟩ := pairs_same hd
          walk_at "dx"
          refine ⟨x, rfl, List.all_eq_true.mp ha.1 x hx, ?_⟩
          walk_at "dz"
          exact ⟨_, _, rfl⟩
        · rintro μ' ρ' ⟨rfl, u, v, rfl⟩
          walk_at "dz"
          exact hp
    all_goals (cases n <;> cases had)
end
theorem small_lt {n : Int} (h0 : 0 ≤ n) (h : n ≤ 10 ^ 31) : n.natAbs < 2 ^ 9000 := by
  have h1 : n.natAbs < 2 ^ 128 := by omega
  exact Nat.lt_of_lt_of_le h1 (Nat.pow_le_pow_right (by decide) (by decide))
theorem p10_9 : (10 : Int) ^ (9 : Int).toNat = 1000000000 := by decide
theorem p10_15 : (10 : Int) ^ (15 : Int).toNat = 1000000000000000 := by decide
theorem p10_14 : (10 : Int) ^ (14 : Int).toNat = 100000000000000 := by decide
theorem cp10 {n : Int} (h0 : 0 ≤ n) (h : n ≤ 100) : CPowB 10 n := ⟨h0, 4, by decide, by omega⟩
/-- an item of a written list at a drawn place -/
theorem pick4 {x : Int} (h0 : 0 ≤ x) (h1 : x < 4) (a b c d : D) : atI [a, b, c, d] x = some (if x = 0 then a else if x = 1 then b else if x = 2 then c else d) := by
  have : x = 0 ∨ x = 1 ∨ x = 2 ∨ x = 3 := by omega
  rcases this with rfl | rfl | rfl | rfl <;> rfl
theorem pick2 {x : Int} (h0 : 0 ≤ x) (h1 : x < 2) (a b : D) : atI [a, b] x = some (if x = 0 then a else b) := by
  have : x = 0 ∨ x = 1 := by omega
  rcases this with rfl | rfl <;> rfl
theorem pick3 {x : Int} (h0 : 0 ≤ x) (h1 : x < 3) (a b c : D) : atI [a, b, c] x = some (if x = 0 then a else if x = 1 then b else c) := by
  have : x = 0 ∨ x = 1 ∨ x = 2 := by omega
  rcases this with rfl | rfl | rfl <;> rfl
theorem mul_in {x y a b : Int} (hx : -a < x ∧ x < a) (hy : -b < y ∧ y < b) : -(a * b) < x * y ∧ x * y < a * b := by
  have h1 : x.natAbs < a.natAbs := by omega
  have h2 : y.natAbs < b.natAbs := by omega
  have h3 : (x * y).natAbs < (a * b).natAbs := by
    rw [Int.natAbs_mul, Int.natAbs_mul]
    exact Nat.mul_lt_mul'' h1 h2
  have h4 : 0 < a * b := Int.mul_pos (by omega) (by omega)
  omega
/-- the text of one sign -/
def sg (c : Nat) : Str := ⟨#[c]⟩
theorem join_sg : ∀ cs : List Nat, (Str.join ⟨#[]⟩ (cs.map sg)).cps.toList = cs
  | [] => rfl
  | [c] => rfl
  | c :: c' :: cs => by
    have ih := join_sg (c' :: cs)
    show ((sg c).cps ++ #[] ++ (Str.join ⟨#[]⟩ ((c' :: cs).map sg)).cps).toList = _
    rw [Array.toList_append, ih]
    rfl
theorem join_sg' (cs : List Nat) : Txt.join ⟨#[]⟩ (cs.map sg) = ⟨cs.toArray⟩ := by
  rw [TL.join_eq]
  have h := join_sg cs
  generalize Str.join ⟨#[]⟩ (cs.map sg) = z at h
  obtain ⟨a⟩ := z
  simp only at h
  rw [← h]
theorem rising_sg : ∀ (c : Nat) (cs : List Nat), risingS (sg c) (cs.map sg) = true → (c :: cs).Pairwise (· ≤ ·)
  | c, [], _ => List.pairwise_singleton _ _
  | c, d :: cs, h => by
    rw [List.map_cons] at h
    unfold risingS at h
    rw [Bool.and_eq_true] at h
    have ih := rising_sg d cs h.2
    have h1 : c ≤ d := by
      have h2 := h.1
      simp only [sg, ltCps, Bool.not_eq_true', Bool.or_eq_false_iff, decide_eq_false_iff_not] at h2
      omega
    refine List.Pairwise.cons (fun e he => ?_) ih
    rcases List.mem_cons.mp he with e1 | e1
    · omega
    · have := (List.pairwise_cons.mp ih).1 e e1
      omega
theorem sorted_sg : ∀ cs : List Nat, sortedS (cs.map sg) = true → cs.Pairwise (· ≤ ·)
  | [], _ => List.Pairwise.nil
  | c :: cs, h => rising_sg c cs h
/-- one to three letters, ascending -/
def Signs (z : Str) : Prop := z.cps.toList.Pairwise (· < ·) ∧ (∀ c ∈ z.cps.toList, 97 ≤ c ∧ c ≤ 122) ∧ 1 ≤ z.cps.toList.length ∧ z.cps.toList.length ≤ 3
def letters : List Nat := (Str.ofString "abcdefghijklmnopqrstuvwxyz").cps.toList
theorem letters_nd : letters.Nodup := by decide +kernel
theorem letters_in : ∀ c ∈ letters, 97 ≤ c ∧ c ≤ 122 := by decide +kernel
theorem letters_len : letters.length = 26 := by decide +kernel
theorem perm_map_sg {zs : List Str} : ∀ {cs : List Nat}, zs.Perm (cs.map sg) → ∃ es : List Nat, zs = es.map sg ∧ es.Perm cs := fun {cs} h => by
  refine ⟨zs.map fun z => z.cps.toList.headD 0, ?_, ?_⟩
  · rw [List.map_map]
    have : ∀ z ∈ zs, (sg ∘ fun z : Str => z.cps.toList.headD 0) z = z := fun z hz => by
      obtain ⟨c, _, rfl⟩ := List.mem_map.mp (h.mem_iff.mp hz)
      rfl
    conv => lhs; rw [← List.map_id zs]
    exact (List.map_congr_left fun z hz => (this z hz).symm)
  · have := h.map fun z : Str => z.cps.toList.headD 0
    rw [List.map_map] at this
    have e : ((fun z : Str => z.cps.toList.headD 0) ∘ sg) = id := by funext c; rfl
    rw [e, List.map_id] at this
    exact this
theorem signs_mk {zs : List Str} {es : List Nat} (hp : zs.Perm (es.map sg)) (hs : sortedS zs = true) (hn : es.Nodup) (hi : ∀ c ∈ es, c ∈ letters) (h1 : 1 ≤ es.length) (h3 : es.length ≤ 3) : ∃ z, Txt.join (Str.ofString "") zs = z ∧ Signs z := by
  obtain ⟨fs, rfl, hf⟩ := perm_map_sg hp
  refine ⟨_, rfl, ?_⟩
  have e : Txt.join (Str.ofString "") (fs.map sg) = ⟨fs.toArray⟩ := join_sg' fs
  rw [e]
  have hle := sorted_sg fs hs
  have hnd : fs.Nodup := hf.nodup_iff.mpr hn
  refine ⟨?_, fun c hc => letters_in c (hi c (hf.mem_iff.mp (by simpa using hc))), ?_, ?_⟩
  · show fs.toArray.toList.Pairwise _
    rw [List.toList_toArray]
    exact (List.Pairwise.and hle hnd).imp fun {a b} h => Nat.lt_of_le_of_ne h.1 h.2
  · show 1 ≤ fs.toArray.toList.length
    rw [List.toList_toArray, hf.length_eq]; exact h1
  · show fs.toArray.toList.length ≤ 3
    rw [List.toList_toArray, hf.length_eq]; exact h3
def sgD (c : Nat) : D := .str (sg c)
theorem sgD_map (cs : List Nat) : cs.map sgD = (cs.map sg).map D.str := by rw [List.map_map]; rfl
theorem signsD_eq (z : Str) : signsD z = z.cps.toList.map sgD := rfl
theorem perm_erase : ∀ {cs : List Nat} {k : Nat} (hk : k < cs.length), (cs[k] :: cs.eraseIdx k).Perm cs
  | c :: cs, 0, _ => List.Perm.refl _
  | c :: cs, k + 1, hk => by
    have ih := perm_erase (cs := cs) (k := k) (by rw [List.length_cons] at hk; omega)
    exact (List.Perm.swap _ _ _).trans (List.Perm.cons c ih)
theorem map_erase {α β : Type} (f : α → β) : ∀ (cs : List α) (k : Nat), (cs.map f).eraseIdx k = (cs.eraseIdx k).map f
  | [], _ => rfl
  | c :: cs, 0 => rfl
  | c :: cs, k + 1 => by
    show f c :: (cs.map f).eraseIdx k = f c :: (cs.eraseIdx k).map f
    rw [map_erase f cs k]
theorem pick_perm {cs es as : List Nat} {k : Nat} (hk : k < cs.length) (h : (cs ++ es).Perm as) : (cs.eraseIdx k ++ (es ++ [cs[k]])).Perm as := by
  refine List.Perm.trans ?_ h
  rw [← List.append_assoc]
  refine List.perm_append_comm.trans ?_
  rw [← List.append_assoc]
  exact List.Perm.append_right _ (perm_erase hk)
theorem sum_sg : ∀ cs : List Nat, ((cs.map sg).map (·.length)).sum = cs.length
  | [] => rfl
  | c :: cs => by
    rw [List.map_cons, List.map_cons, List.sum_cons, sum_sg cs, List.length_cons]
    show 1 + _ = _
    omega
theorem seq_nat {j : Int} {n : Nat} (h0 : 0 ≤ j) (h1 : j < n) : seqIndex? j n = some j.toNat := by
  have h2 : ¬ j < 0 := by omega
  unfold seqIndex?
  dsimp only
  rw [if_neg h2, if_pos (by rw [Bool.and_eq_true, decide_eq_true_eq, decide_eq_true_eq]; exact ⟨h0, h1⟩)]
def P_signs : PD := fun μ ds post _ => ∃ (a g : Addr) (c : Int), ds = [.at a] ∧ Deck a g c μ ∧ c ≤ 900000 ∧
  ∀ μ' z, Signs z → Deck a g (c + 4) μ' → Keep a g μ μ' → post μ' (.str z)
section
variable {P : Program} {w : World} {K : PySem.W.Frag} {mg : Str → Option Value} {base : Heap}
theorem c_signs (h : Std K mg "_law_signs" s__law_signs) (n_range : mg "range" = none) (n_len : mg "len" = none) (n_sorted : mg "sorted" = none) (C__law_draw : Cal P w K mg base CX0 1 "_law_draw" s__law_draw ["_law_deck_here", "_law_limit"] (spD K 2 P_draw)) : Cal P w K mg base CX0 2 "_law_signs" s__law_signs ["_law_deck_here"] (spD K 1 P_signs) := by
  refine cal0 h sc__law_signs (fun _ _ _ _ _ _ us hl => match us, hl with | [_], _ => rfl) fun f cdv A outer s H E hr => ⟨_,
    have hu64 := hr.units; (pss_cons (ps_asg (pe_lc (own := [("_law_letter", 3)]) rfl sc__law_signs.nd (pi_str pe_str) (blkOk_by (own := [("_law_letter", 3)]) (N := ["_law_deck_here", "_law_left", "_law_picked", "_law_letter", "_law_k"]) (sc := defScope s__law_signs) (by decide +kernel)) (fun _ _ _ _ _ => pg_via (pg_name (i := 3) sc__law_signs.nd rfl (Or.inl rfl)) (by (try dsimp only [Cx.blk, Cx.nox, Cx.tr]) <;> exact rfl)) (fun _ _ _ _ _ => pts_via pts_nil (by (try dsimp only [Cx.blk, Cx.nox, Cx.tr]) <;> exact rfl)) (fun _ _ _ _ _ => pe_via (pv 3) (by (try dsimp only [Cx.blk, Cx.nox, Cx.tr]) <;> exact rfl))) (pg_name (i := 1) sc__law_signs.nd rfl (Or.inr rfl)))
 (pss_cons (ps_setLc (i := 2) (own := [("_law_k", 4)]) rfl sc__law_signs.nd rfl rfl (sw_true rfl rfl rfl (by decide +kernel)) (pi_range1 rfl n_range (pa_cons (pe_op op_addU pe_int (pe_c C__law_draw hr (by first | decide | omega) (pa_cons (pv 0) (pa_cons pe_int pa_nil)))) pa_nil)) (blkOk_by (own := [("_law_k", 4)]) (N := ["_law_deck_here", "_law_left", "_law_picked", "_law_letter", "_law_k"]) (sc := defScope s__law_signs) (by decide +kernel)) (fun _ _ _ _ _ => pg_via (pg_name (i := 4) sc__law_signs.nd rfl (Or.inl rfl)) (by (try dsimp only [Cx.blk, Cx.nox, Cx.tr]) <;> exact rfl)) (fun _ _ _ _ _ => pts_via pts_nil (by (try dsimp only [Cx.blk, Cx.nox, Cx.tr]) <;> exact rfl)) (fun _ _ _ _ _ => pe_via (pe_bm PySem.F.plainAttrs_list PySem.F.slot_list_pop PySem.F.type_list_pop mt_popAt (pv 1) (pa_cons (pe_c C__law_draw hr (by first | decide | omega) (pa_cons (pv 0) (pa_cons (pe_callB call_len (by rfl) n_len (by decide +kernel) (pa_cons (pv 1) pa_nil)) pa_nil))) pa_nil)) (by (try dsimp only [Cx.blk, Cx.nox, Cx.tr]) <;> exact rfl)))
 (pss_one (ps_ret (pe_join pe_str (pe_callB cr_sortedS (by rfl) n_sorted (by decide +kernel) (pa_cons (pv 2) pa_nil))))))), fun μ ds post exc hl hP => ?_⟩
  obtain ⟨a, g, c, rfl, D0, hc, hp⟩ := hP
  walk_at "d0"
  walk_at "dx"
  refine evx_lcPM (itx_str ?_)
  walk_at "dx"
  refine ⟨⟨Nat.le_of_ble_eq_true rfl, fun _ _ => True.intro⟩, fun _ => true, id, ?_, ?_⟩
  · intro d hd μ' hμ
    refine tcx_name (by decide) ?_
    refine evb_yes ⟨rfl, rfl, fun _ => ?_⟩
    walk_at "dx"
    first | exact ⟨rfl, rfl⟩ | exact rfl
  intro p hp0
  rw [List.filter_eq_self.mpr (fun _ _ => rfl), List.map_id, signsD_eq]
  have hn := D0.na hp0
  have D1 : Deck a g c (mput μ p (.lst (letters.map sgD))) := D0.but hn.1 hn.2
  have h1 : mput μ p (.lst (letters.map sgD)) p = some (.lst (letters.map sgD)) := mput_same
  have K1 : Keep a g μ (mput μ p (.lst (letters.map sgD))) := Keep.put hp0
  show TgX K WN XN (mput μ p (.lst (letters.map sgD))) _ _ _ _
  generalize mput μ p (.lst (letters.map sgD)) = μ1 at D1 h1 K1 ⊢
  walk_at "dx"
  refine evx_lcI (itx_range1 ?_)
  walk_at "dx"
  refine ⟨a, g, c, 3, rfl, D1, by omega, by decide, by decide, fun μ2 n hn0 hn1 D2 B2 => ?_⟩
  walk_at "dx"
  have h2 : μ2 p = some (.lst (letters.map sgD)) := (B2 p hn.1 hn.2).trans h1
  refine ⟨⟨by omega, by omega⟩, ⟨by rw [rangeD_len]; omega, fun _ => True.intro⟩, ?_⟩
  refine ⟨fun i μ' acc => Deck a g (c + 1 + i) μ' ∧ Keep a g μ μ' ∧ ∃ cs es : List Nat, (cs ++ es).Perm letters ∧ es.length = i ∧ μ' p = some (.lst (cs.map sgD)) ∧ acc = es.map sgD,
    ⟨D2.mono (by simp), K1.trans B2.keep, letters, [], by rw [List.append_nil], rfl, h2, rfl⟩, ?_, ?_, .inl ?_⟩
  · rintro Dl hD i acc μ' μ'' hb ⟨d1, k1, cs, es, e1, e2, e3, e4⟩
    have hd := D2.na hD
    have hp : p ≠ Dl := fun z => (by rw [← z, h2] at hD; exact nomatch hD)
    have h0 : μ Dl = none := by
      cases hm : μ Dl with
      | none => rfl
      | some o => rw [B2.keep Dl o hd.1 hd.2 (K1 Dl o hd.1 hd.2 hm)] at hD; exact nomatch hD
    exact ⟨d1.off hd.1 hd.2 hb, k1.off h0 hb, cs, es, e1, e2, by rw [hb p hp]; exact e3, e4⟩
  · rintro Dl hD i d μ' acc hi ha hDl ⟨d1, k1, cs, es, e1, e2, e3, e4⟩
    have hd := D2.na hD
    have hp : Dl ≠ p := fun z => (by rw [z, h2] at hD; exact nomatch hD)
    obtain ⟨hi2, rfl⟩ := rangeD_get hi
    have hlen : cs.length + es.length = 26 := by rw [← List.length_append, e1.length_eq, letters_len]
    refine tcx_name (by decide) ?_
    refine evb_yes ⟨hDl, ?_⟩
    rw [if_pos rfl]
    refine evx_popAt ?_
    walk_at "dx"
    refine ⟨p, _, rfl, e3, ?_⟩
    walk_at "dx"
    refine cax_len (n := cs.length) ⟨_, e3, by rw [List.length_map]⟩ ?_
    walk_at "dx"
    refine ⟨a, g, _, _, rfl, d1, by omega, by omega, small_lt (by omega) (by omega), fun μ4 j hj0 hj1 D4 B4 => ?_⟩
    have hk : j.toNat < cs.length := by omega
    refine ⟨_, j, j.toNat, sgD cs[j.toNat], rfl, (B4 p hn.1 hn.2).trans e3, ⟨by omega, by omega⟩, seq_nat hj0 (by rw [List.length_map]; exact hj1), by rw [List.getElem?_map, List.getElem?_eq_getElem hk]; rfl, ?_, ?_⟩
    · rw [mput_ne hp]
      exact (B4 Dl hd.1 hd.2).trans hDl
    · refine ⟨(D4.but hn.1 hn.2).mono (by rw [Int.natCast_add]; omega), (k1.trans B4.keep).new hp0, cs.eraseIdx j.toNat, es ++ [cs[j.toNat]], pick_perm hk e1, by rw [List.length_append, e2]; rfl, ?_, ?_⟩
      · rw [mput_same, map_erase]
      · rw [e4, List.map_append]; rfl
  · rintro μ3 acc hacc ⟨d1, k1, cs, es, e1, e2, e3, rfl⟩
    rw [rangeD_len] at e2 d1
    have hnd : es.Nodup := ((List.nodup_append.mp (e1.nodup_iff.mpr letters_nd)).2).1
    have hin : ∀ c ∈ es, c ∈ letters := fun c hc => e1.mem_iff.mp (List.mem_append_right _ hc)
    walk_at "dx"
    refine evx_join ?_
    walk_at "dx"
    refine cax_sortedS (zs := es.map sg) (S := fun _ => True) (by rw [← sgD_map]; exact isL_lst) (by rw [List.length_map]; omega) (fun zs hz hs => ?_)
    obtain ⟨z, ez, sz⟩ := signs_mk hz hs hnd hin (by omega) (by omega)
    refine ⟨zs, fun _ => True, isL_lst, ?_, ?_⟩
    · have e5 : (zs.map (·.length)).sum = es.length := by
        rw [← sum_sg es]
        exact (hz.map _).sum_nat
      have e6 : (Str.ofString "").length = 0 := rfl
      rw [e5, e6]
      omega
    · rw [ez]
      exact hp _ _ sz (d1.mono (by omega)) k1
end
def numD (a b : Int) : D := .tup [.int a, .int b]
def In10 (x : Int) : Prop := -(10 ^ 10) < x ∧ x < 10 ^ 10
/-- two ints of at most ten digits -/
def NumOk (d : D) : Prop := ∃ x y : Int, d = numD x y ∧ In10 x ∧ In10 y
def TxtOk (z : Str) : Prop := z.length ≤ 20 ∧ (PyData.str z).canLay0 = true
def RoadOk (d : D) : Prop := ∃ (s b : Int) (z : Str) (x y : Int), d = .tup [.int s, .str z, .int b, numD x y] ∧ In10 s ∧ In10 b ∧ TxtOk z ∧ In10 x ∧ In10 y
theorem NumOk.nice {d : D} (h : NumOk d) (n : Nat) : Nice (n + 1) d := by
  obtain ⟨x, y, rfl, _, _⟩ := h
  refine nice_tup fun e he => ?_
  simp only [List.mem_cons, List.not_mem_nil, or_false] at he
  rcases he with rfl | rfl <;> exact nice_int _ _
theorem TxtOk.lay {z : Str} (h : TxtOk z) : (PyData.str z).canLay0 = true := h.2
theorem RoadOk.nice {d : D} (h : RoadOk d) (n : Nat) : Nice (n + 2) d := by
  obtain ⟨s, b, z, x, y, rfl, _, _, hz, hx, hy⟩ := h
  refine nice_tup fun e he => ?_
  simp only [List.mem_cons, List.not_mem_nil, or_false] at he
  rcases he with rfl | rfl | rfl | rfl
  · exact nice_int _ _
  · exact nice_str _ hz.lay
  · exact nice_int _ _
  · exact NumOk.nice ⟨x, y, rfl, hx, hy⟩ n
def partsD (z : Str) (be ro en : List D) : D := .lst [.str z, .lst be, .lst ro, .lst en]
def P_num : PD := fun μ ds post _ => ∃ (a g : Addr) (c : Int), ds = [.at a] ∧ Deck a g c μ ∧ c ≤ 900000 ∧
  ∀ μ' d, NumOk d → Deck a g (c + 6) μ' → But a g μ μ' → post μ' d
def P_machine : PD := fun μ ds post _ => ∃ (a g : Addr) (c : Int), ds = [.at a] ∧ Deck a g c μ ∧ c ≤ 800000 ∧
  ∀ μ' z be ro en, Signs z → (∀ d ∈ be, NumOk d) → (∀ d ∈ ro, RoadOk d) → (∀ d ∈ en, NumOk d) → be.length ≤ 6 → en.length = be.length → ro.length ≤ 24 → Deck a g (c + 1000) μ' → Keep a g μ μ' → post μ' (partsD z be ro en)
theorem low_bd {x y : Int} (h : y ≠ 0) : ∃ a b : Int, lowD x y = numD a b ∧ a.natAbs ≤ x.natAbs ∧ b.natAbs ≤ y.natAbs := by
  have h0 : 0 < Nat.gcd x.natAbs y.natAbs := Nat.gcd_pos_of_pos_right _ (by omega)
  have hg1 : ((Nat.gcd x.natAbs y.natAbs : Nat) : Int) ∣ x := Int.ofNat_dvd_left.mpr (Nat.gcd_dvd_left _ _)
  have hg2 : ((Nat.gcd x.natAbs y.natAbs : Nat) : Int) ∣ y := Int.ofNat_dvd_left.mpr (Nat.gcd_dvd_right _ _)
  have hc : lowC x y ≠ 0 := by unfold lowC; split <;> omega
  have d1 : lowC x y ∣ x := by unfold lowC; split; exact Int.neg_dvd.mpr hg1; exact hg1
  have d2 : lowC x y ∣ y := by unfold lowC; split; exact Int.neg_dvd.mpr hg2; exact hg2
  obtain ⟨k, hk⟩ := d1
  obtain ⟨m, hm⟩ := d2
  refine ⟨x.fdiv (lowC x y), y.fdiv (lowC x y), rfl, ?_, ?_⟩
  · generalize lowC x y = c at *
    rw [hk, Int.mul_fdiv_cancel_left _ hc, Int.natAbs_mul]
    exact Nat.le_mul_of_pos_left _ (by omega)
  · generalize lowC x y = c at *
    rw [hm, Int.mul_fdiv_cancel_left _ hc, Int.natAbs_mul]
    exact Nat.le_mul_of_pos_left _ (by omega)
theorem pick_anyA {α : Type} {ds : List α} {x : Int} (h0 : 0 ≤ x) (h1 : x < ds.length) : ∃ d, d ∈ ds ∧ atI ds x = some d := by
  have hk : x.toNat < ds.length := by omega
  refine ⟨ds[x.toNat], List.getElem_mem hk, ?_⟩
  unfold atI ixN
  rw [if_pos h0, if_pos h1]
  exact List.getElem?_eq_getElem hk
theorem sg_ok {c : Nat} (h : c < 1114112) : TxtOk ⟨#[c]⟩ := ⟨by show 1 ≤ 20; decide, by
  show Array.all #[c] (fun x => decide (x < 1114112)) = true
  simp [h]⟩
section
variable {P : Program} {w : World} {K : PySem.W.Frag} {mg : Str → Option Value} {base : Heap}
theorem c_num (h : Std K mg "_law_number" s__law_number) (C__law_draw : Cal P w K mg base CX0 1 "_law_draw" s__law_draw ["_law_deck_here", "_law_limit"] (spD K 2 P_draw)) (C__law_pair : Cal P w K mg base CX0 2 "_law_pair" s__law_pair ["_law_above", "_law_below"] (spD K 2 P_lowest)) : Cal P w K mg base CX0 3 "_law_number" s__law_number ["_law_deck_here"] (spD K 1 P_num) := by
  refine cal0 h sc__law_number (fun _ _ _ _ _ _ us hl => match us, hl with | [_], _ => rfl) fun f cdv A outer s H E hr => ⟨_,
    have hu64 := hr.units; (pss_cons (ps_set (i := 1) sc__law_number.nd rfl (Or.inl rfl) (pe_ix ix_seq (pe_lst (pa_cons pe_int (pa_cons pe_int (pa_cons pe_int pa_nil)))) (pe_c C__law_draw hr (by first | decide | omega) (pa_cons (pv 0) (pa_cons pe_int pa_nil))) (fun _ _ => rfl)))
 (pss_cons (ps_if (pt_cmpR (op_eqU hu64) (pe_c C__law_draw hr (by first | decide | omega) (pa_cons (pv 0) (pa_cons pe_int pa_nil))) pe_int (nomark _))
 (pss_one (ps_set (i := 1) sc__law_number.nd rfl (Or.inl rfl) (pe_op op_powB pe_int pe_int)))
 pss_nil)
 (pss_one (ps_ret (pe_c C__law_pair hr (by first | decide | omega) (pa_cons (pe_op op_sub (pe_c C__law_draw hr (by first | decide | omega) (pa_cons (pv 0) (pa_cons (pv 1) pa_nil))) (pe_op op_divB (pv 1) pe_int)) (pa_cons (pe_op op_addU pe_int (pe_c C__law_draw hr (by first | decide | omega) (pa_cons (pv 0) (pa_cons (pe_ix ix_seq (pe_lst (pa_cons pe_int (pa_cons (pe_op op_sub (pv 1) pe_int) pa_nil))) (pe_c C__law_draw hr (by first | decide | omega) (pa_cons (pv 0) (pa_cons pe_int pa_nil))) (fun _ _ => rfl)) pa_nil)))) pa_nil))))))), fun μ ds post exc hl hP => ?_⟩
  obtain ⟨a, g, c, rfl, D0, hc, hp⟩ := hP
  have q9 := cp10 (n := 9) (by decide) (by decide)
  walk_at "d0"
  refine gs_mid (fun μ' ρ' => (∃ gr : Int, ρ' = [some (.at a), some (.int gr)] ∧ 4 ≤ gr ∧ gr ≤ 100) ∧ Deck a g (c + 1) μ' ∧ But a g μ μ') ?_ ?_
  · walk_at "dx"
    refine evx_lst ?_
    walk_at "dx"
    refine ⟨a, g, c, 3, rfl, D0, by omega, by decide, by decide, fun μ1 y hy0 hy1 D1 B1 => ?_⟩
    refine opx_ix (x := .lst _) rfl (pick3 hy0 hy1 _ _ _) ?_
    have e0 : (if y = 0 then D.int 4 else if y = 1 then .int 10 else .int 100) = .int (if y = 0 then 4 else if y = 1 then 10 else 100) := by split <;> (try split) <;> rfl
    rw [e0]
    have l0 : 4 ≤ (if y = 0 then (4 : Int) else if y = 1 then 10 else 100) ∧ (if y = 0 then (4 : Int) else if y = 1 then 10 else 100) ≤ 100 := by split <;> (try split) <;> omega
    walk_at "dx"
    exact ⟨⟨_, rfl, l0.1, l0.2⟩, D1, B1⟩
  rintro μ1 ρ1 ⟨⟨g0, rfl, l0, l1⟩, D1, B1⟩
  refine gs_mid (fun μ' ρ' => (∃ gr : Int, ρ' = [some (.at a), some (.int gr)] ∧ 4 ≤ gr ∧ gr ≤ 1000000000) ∧ Deck a g (c + 2) μ' ∧ But a g μ μ') ?_ ?_
  · walk_at "dx"
    refine ⟨a, g, _, 8, rfl, D1, by omega, by decide, by decide, fun μ2 t _ _ D2 B2 => ?_⟩
    walk_at "dx"
    refine ifD (fun _ => ?_) (fun _ => ?_)
    · walk_at "dx"
      rw [p10_9]
      exact ⟨⟨_, rfl, by decide, by decide⟩, D2.mono (by omega), B1.trans B2⟩
    · walk_at "dx"
      exact ⟨⟨_, rfl, l0, by omega⟩, D2.mono (by omega), B1.trans B2⟩
  rintro μ2 ρ2 ⟨⟨gr, rfl, g4, g9⟩, D2, B2⟩
  walk_at "dx"
  refine ⟨a, g, _, gr, rfl, D2, by omega, by omega, small_lt (by omega) (by omega), fun μ3 v hv0 hv1 D3 B3 => ?_⟩
  walk_at "dx"
  refine evx_lst ?_
  walk_at "dx"
  refine ⟨a, g, _, 2, rfl, D3, by omega, by decide, by decide, fun μ4 z hz0 hz1 D4 B4 => ?_⟩
  refine opx_ix (x := .lst _) rfl (pick2 hz0 hz1 _ _) ?_
  have e : (if z = 0 then D.int 1 else .int (gr - 1)) = .int (if z = 0 then 1 else gr - 1) := by split <;> rfl
  rw [e]
  have l2 : 0 < (if z = 0 then (1 : Int) else gr - 1) ∧ (if z = 0 then (1 : Int) else gr - 1) ≤ 1000000000 := by split <;> omega
  generalize (if z = 0 then (1 : Int) else gr - 1) = lim at l2 ⊢
  walk_at "dx"
  refine ⟨a, g, _, lim, rfl, D4, by omega, l2.1, small_lt (by omega) (by omega), fun μ5 be hb0 hb1 D5 B5 => ?_⟩
  walk_at "dx"
  have hf : gr.fdiv 2 = gr / 2 := Int.fdiv_eq_ediv_of_nonneg _ (by decide)
  have hne : 1 + be ≠ 0 := by omega
  obtain ⟨x, y, el, hx, hy⟩ := low_bd (x := v - gr.fdiv 2) hne
  refine ⟨_, _, rfl, hne, small_lt (by omega) (by omega), ?_⟩
  rw [el]
  exact hp _ _ ⟨x, y, rfl, ⟨by omega, by omega⟩, ⟨by omega, by omega⟩⟩ (D5.mono (by omega)) (((B2.trans B3).trans B4).trans B5)
theorem c_machine (h : Std K mg "_law_machine" s__law_machine) (n_range : mg "range" = none) (n_len : mg "len" = none) (n_min : mg "min" = none) (C__law_draw : Cal P w K mg base CX0 1 "_law_draw" s__law_draw ["_law_deck_here", "_law_limit"] (spD K 2 P_draw)) (C__law_signs : Cal P w K mg base CX0 2 "_law_signs" s__law_signs ["_law_deck_here"] (spD K 1 P_signs)) (C__law_number : Cal P w K mg base CX0 3 "_law_number" s__law_number ["_law_deck_here"] (spD K 1 P_num)) : Cal P w K mg base CX0 4 "_law_machine" s__law_machine ["_law_deck_here"] (spD K 1 P_machine) := by
  refine cal0 h sc__law_machine (fun _ _ _ _ _ _ us hl => match us, hl with | [_], _ => rfl) fun f cdv A outer s H E hr => ⟨_,
    have hu64 := hr.units; (pss_cons (ps_set (i := 1) sc__law_machine.nd rfl (Or.inl rfl) (pe_c C__law_signs hr (by first | decide | omega) (pa_cons (pv 0) pa_nil)))
 (pss_cons (ps_set (i := 2) sc__law_machine.nd rfl (Or.inl rfl) (pe_ix ix_seq (pe_lst (pa_cons pe_int (pa_cons pe_int (pa_cons pe_int (pa_cons pe_int (pa_cons pe_int (pa_cons pe_int (pa_cons pe_int pa_nil)))))))) (pe_c C__law_draw hr (by first | decide | omega) (pa_cons (pv 0) (pa_cons pe_int pa_nil))) (fun _ _ => rfl)))
 (pss_cons (ps_setLc (i := 4) (own := [("_law_k", 3)]) rfl sc__law_machine.nd rfl rfl (sw_true rfl rfl rfl (by decide +kernel)) (pi_range1 rfl n_range (pa_cons (pv 2) pa_nil)) (blkOk_by (own := [("_law_k", 3)]) (N := ["_law_deck_here", "_law_signs_here", "_law_many", "_law_k", "_law_begin", "_law_roads", "_law_road"]) (sc := defScope s__law_machine) (by decide +kernel)) (fun _ _ _ _ _ => pg_via (pg_name (i := 3) sc__law_machine.nd rfl (Or.inl rfl)) (by (try dsimp only [Cx.blk, Cx.nox, Cx.tr]) <;> exact rfl)) (fun _ _ _ _ _ => pts_via pts_nil (by (try dsimp only [Cx.blk, Cx.nox, Cx.tr]) <;> exact rfl)) (fun _ _ _ _ _ => pe_via (pe_c C__law_number hr (by first | decide | omega) (pa_cons (pv 0) pa_nil)) (by (try dsimp only [Cx.blk, Cx.nox, Cx.tr]) <;> exact rfl)))
 (pss_cons (ps_set (i := 5) sc__law_machine.nd rfl (Or.inl rfl) (pe_lst pa_nil))
 (pss_cons (ps_for PassesOwn.never rfl (pi_range1 rfl n_range (pa_cons (pe_c C__law_draw hr (by first | decide | omega) (pa_cons (pv 0) (pa_cons (pe_op op_addU pe_int (pe_callB (call_min2 rfl) (by rfl) n_min (by decide +kernel) (pa_cons pe_int (pa_cons (pe_op op_mulU pe_int (pv 2)) pa_nil)))) pa_nil))) pa_nil)) (pg_name (i := 3) sc__law_machine.nd rfl (Or.inl rfl))
 (pss_cons (ps_set (i := 6) sc__law_machine.nd rfl (Or.inl rfl) (pe_tup (pa_cons (pe_c C__law_draw hr (by first | decide | omega) (pa_cons (pv 0) (pa_cons (pv 2) pa_nil))) (pa_cons (pe_ix ix_seq (pv 1) (pe_c C__law_draw hr (by first | decide | omega) (pa_cons (pv 0) (pa_cons (pe_callB call_len (by rfl) n_len (by decide +kernel) (pa_cons (pv 1) pa_nil)) pa_nil))) (fun _ _ => rfl)) (pa_cons (pe_c C__law_draw hr (by first | decide | omega) (pa_cons (pv 0) (pa_cons (pv 2) pa_nil))) (pa_cons (pe_c C__law_number hr (by first | decide | omega) (pa_cons (pv 0) pa_nil)) pa_nil))))))
 (pss_cons (ps_if (PW.pt (pw_and (pt_cmpR (op_neU hu64) (pv 5) (pe_lst pa_nil) (nomark _)) (pw_and1 (pt_cmpR (op_eqU hu64) (pe_c C__law_draw hr (by first | decide | omega) (pa_cons (pv 0) (pa_cons pe_int pa_nil))) pe_int (nomark _)))))
 (pss_one (ps_set (i := 6) sc__law_machine.nd rfl (Or.inl rfl) (pe_ix ix_seq (pv 5) (pe_c C__law_draw hr (by first | decide | omega) (pa_cons (pv 0) (pa_cons (pe_callB call_len (by rfl) n_len (by decide +kernel) (pa_cons (pv 5) pa_nil)) pa_nil))) (fun _ _ => rfl))))
 pss_nil)
 (pss_one (ps_expr (pe_bm PySem.F.plainAttrs_list PySem.F.slot_list_append PySem.F.type_list_append mt_append (pv 5) (pa_cons (pv 6) pa_nil)))))))
 (pss_one (ps_ret (pe_lst (pa_cons (pv 1) (pa_cons (pv 4) (pa_cons (pv 5) (pa_cons (pe_lc (own := [("_law_k", 3)]) rfl sc__law_machine.nd (pi_range1 rfl n_range (pa_cons (pv 2) pa_nil)) (blkOk_by (own := [("_law_k", 3)]) (N := ["_law_deck_here", "_law_signs_here", "_law_many", "_law_k", "_law_begin", "_law_roads", "_law_road"]) (sc := defScope s__law_machine) (by decide +kernel)) (fun _ _ _ _ _ => pg_via (pg_name (i := 3) sc__law_machine.nd rfl (Or.inl rfl)) (by (try dsimp only [Cx.blk, Cx.nox, Cx.tr]) <;> exact rfl)) (fun _ _ _ _ _ => pts_via pts_nil (by (try dsimp only [Cx.blk, Cx.nox, Cx.tr]) <;> exact rfl)) (fun _ _ _ _ _ => pe_via (pe_c C__law_number hr (by first | decide | omega) (pa_cons (pv 0) pa_nil)) (by (try dsimp only [Cx.blk, Cx.nox, Cx.tr]) <;> exact rfl))) pa_nil)))))))))))), fun μ ds post exc hl hP => ?_⟩
  obtain ⟨a, g, c, rfl, D0, hc, hp⟩ := hP
  walk_at "d0"
  walk_at "dx"
  refine ⟨a, g, c, rfl, D0, by omega, fun μ1 z hz D1 K1 => ?_⟩
  walk_at "dx"
  refine evx_lst ?_
  walk_at "dx"
  refine ⟨a, g, _, 7, rfl, D1, by omega, by decide, by decide, fun μ2 y hy0 hy1 D2 B2 => ?_⟩
  have K2 : Keep a g μ μ2 := K1.trans B2.keep
  obtain ⟨dm, hdm, hat⟩ := pick_any (ds := [D.int 2, .int 3, .int 1, .int 4, .int 0, .int 5, .int 6]) hy0 hy1
  obtain ⟨many, rfl, hm6⟩ : ∃ n : Nat, dm = .int n ∧ n ≤ 6 := by
    simp only [List.mem_cons, List.not_mem_nil, or_false] at hdm
    rcases hdm with rfl | rfl | rfl | rfl | rfl | rfl | rfl
    · exact ⟨2, rfl, by decide⟩
    · exact ⟨3, rfl, by decide⟩
    · exact ⟨1, rfl, by decide⟩
    · exact ⟨4, rfl, by decide⟩
    · exact ⟨0, rfl, by decide⟩
    · exact ⟨5, rfl, by decide⟩
    · exact ⟨6, rfl, by decide⟩
  refine opx_ix (x := .lst _) rfl hat ?_
  walk_at "dx"
  refine evx_lcDk (a := a) (ga := g) (itx_range1 ?_)
  walk_at "dx"
  refine ⟨⟨by omega, by omega⟩, ⟨by rw [rangeD_len]; omega, fun _ => True.intro⟩, ?_⟩
  refine ⟨_, 6, fun i acc => acc.length = i ∧ ∀ d ∈ acc, NumOk d, D2, ⟨rfl, fun _ h => nomatch h⟩, ?_, ?_⟩
  · rintro i d μ' acc hd ha ⟨r1, r2⟩ D3 K3
    obtain ⟨hi2, rfl⟩ := rangeD_get hd
    refine tcx_name (by decide) ?_
    refine evb_yes ?_
    rw [if_pos rfl]
    refine ⟨Keep.refl _ _ _, ?_⟩
    walk_at "dx"
    refine ⟨a, g, _, rfl, D3, by omega, fun μ4 d hd D4 B4 => ⟨B4.keep, D4.mono (by omega), by rw [List.length_append, r1]; rfl, fun e he => ?_⟩⟩
    rcases List.mem_append.mp he with he | he
    · exact r2 e he
    · rw [List.mem_singleton] at he; subst he; exact hd
  rintro μ3 be hbl ⟨b1, b2⟩ D3 K3
  have hlm : (rangeD 0 (many : Int).toNat).length = many := by rw [rangeD_len]; omega
  rw [hlm] at b1 D3
  have K3' : Keep a g μ μ3 := K2.trans K3
  have D3' : Deck a g (c + 45) μ3 := D3.mono (by omega)
  clear D3 K3 D2 K2 B2 D1 K1
  walk_at "dx"
  refine evx_lstM ?_
  walk_at "dx"
  intro p hp0
  have hn := D3'.na hp0
  have hpμ : μ p = none := by
    cases hm : μ p with
    | none => rfl
    | some o => rw [K3' p o hn.1 hn.2 hm] at hp0; exact nomatch hp0
  have m5 : CMulB 5 (many : Int) := ⟨64, 64, by omega, by omega, by decide⟩
  have zl : z.length = z.cps.toList.length := Array.length_toList.symm
  have hD4 := D3'.but (o := .lst []) hn.1 hn.2
  have hK4 : Keep a g μ (mput μ3 p (.lst [])) := K3'.new hpμ
  have hp4 : mput μ3 p (.lst []) p = some (.lst []) := mput_same
  generalize mput μ3 p (.lst []) = μ4 at hD4 hK4 hp4 ⊢
  walk_at "dx"
  refine gs_for (itx_range1 ?_)
  walk_at "dx"
  refine ⟨a, g, _, _, rfl, hD4, by omega, by split <;> omega, small_lt (by split <;> omega) (by split <;> omega), fun μ5 n hn0 hn1 D5 B5 => ?_⟩
  have hn24 : n ≤ 24 ∧ (0 < n → 1 ≤ many) := by
    split at hn1
    · exact ⟨by omega, fun _ => by omega⟩
    · exact ⟨by omega, fun _ => by omega⟩
  walk_at "dx"
  refine ⟨⟨by omega, by omega⟩, ?_⟩
  refine ⟨fun i μ' ρ' => ∃ (ro : List D) (u3 u6 : Option D), ρ' = [some (.at a), some (.str z), some (.int many), u3, some (.lst be), some (.at p), u6] ∧ μ' p = some (.lst ro) ∧ ro.length = i ∧ (∀ d ∈ ro, RoadOk d) ∧ Deck a g (c + 46 + 20 * i) μ' ∧ Keep a g μ μ',
    ⟨[], none, none, rfl, (B5 p hn.1 hn.2).trans hp4, rfl, (fun _ h => nomatch h), D5.mono (by omega), hK4.trans B5.keep⟩, fun _ _ _ _ _ => True.intro, ?_, ?_⟩
  · rintro i d μ6 ρ6 hd ⟨ro, u3, u6, rfl, r1, r2, r3, D6, K6⟩
    obtain ⟨hi, rfl⟩ := rangeD_get hd
    have hmany : 1 ≤ many := hn24.2 (by omega)
    refine tgx_name ?_
    refine gs_mid (fun μ' ρ' => ∃ rd : D, ρ' = [some (.at a), some (.str z), some (.int many), some (.int (0 + i)), some (.lst be), some (.at p), some rd] ∧ RoadOk rd ∧ μ' p = some (.lst ro) ∧ Deck a g (c + 46 + 20 * i + 10) μ' ∧ Keep a g μ μ') ?_ ?_
    · walk_at "dx"
      refine ⟨a, g, _, many, rfl, D6, by omega, by omega, small_lt (by omega) (by omega), fun μ7 s hs0 hs1 D7 B7 => ?_⟩
      walk_at "dx"
      refine cax_len (n := z.length) ⟨by have := hz.2.2.2; omega, rfl⟩ ?_
      walk_at "dx"
      refine ⟨a, g, _, _, rfl, D7, by omega, by have := hz.2.2.1; omega, small_lt (by omega) (by have := hz.2.2.2; omega), fun μ8 j hj0 hj1 D8 B8 => ?_⟩
      obtain ⟨ch, hch, hat2⟩ := pick_anyA (ds := z.cps.toList) hj0 (by rw [← zl]; exact hj1)
      refine opx_ixS (by have := hz.2.2.2; omega) hat2 ?_
      walk_at "dx"
      refine ⟨a, g, _, many, rfl, D8, by omega, by omega, small_lt (by omega) (by omega), fun μ9 b hb0 hb1 D9 B9 => ?_⟩
      walk_at "dx"
      refine ⟨a, g, _, rfl, D9, by omega, fun μ10 d hd D10 B10 => ?_⟩
      walk_at "dx"
      obtain ⟨x, y, rfl, hx, hy⟩ := hd
      have BB := ((B7.trans B8).trans B9).trans B10
      refine ⟨⟨s, b, _, x, y, rfl, ⟨by omega, by omega⟩, ⟨by omega, by omega⟩, sg_ok (by have := (hz.2.1 ch hch).2; omega), hx, hy⟩, (BB p hn.1 hn.2).trans r1, D10.mono (by omega), K6.trans BB.keep⟩
    · rintro μ7 ρ7 ⟨rd, rfl, hrd, r4, D7, K7⟩
      refine gs_mid (fun μ' ρ' => ∃ rd : D, ρ' = [some (.at a), some (.str z), some (.int many), some (.int (0 + i)), some (.lst be), some (.at p), some rd] ∧ RoadOk rd ∧ μ' p = some (.lst ro) ∧ Deck a g (c + 46 + 20 * i + 15) μ' ∧ Keep a g μ μ') ?_ ?_
      · walk_at "dx"
        refine evx_lst ?_
        walk_at "dx"
        refine opx_neNil (real_at r4) (fun d hd => (r3 d hd).nice 58) ?_
        walk_at "dx"
        cases he : ro.isEmpty with
        | true =>
          refine ifNo rfl ?_
          walk_at "dz"
          exact ⟨hrd, r4, D7.mono (by omega), K7⟩
        | false =>
          have hpos : 0 < ro.length := by
            cases ro with
            | nil => exact nomatch he
            | cons _ _ => exact Nat.succ_pos _
          refine ifY rfl ?_
          walk_at "dx"
          refine ⟨a, g, _, 6, rfl, D7, by omega, by decide, by decide, fun μ8 t _ _ D8 B8 => ?_⟩
          have r8 := (B8 p hn.1 hn.2).trans r4
          walk_at "dx"
          refine ifD (fun _ => ?_) (fun _ => ?_)
          · walk_at "dx"
            refine cax_len (n := ro.length) ⟨_, r8, rfl⟩ ?_
            walk_at "dx"
            refine ⟨a, g, _, _, rfl, D8, by omega, by omega, small_lt (by omega) (by omega), fun μ9 j hj0 hj1 D9 B9 => ?_⟩
            obtain ⟨rd2, hrd2, hat3⟩ := pick_any (ds := ro) hj0 hj1
            have r9 := (B9 p hn.1 hn.2).trans r8
            refine opx_ixA r9 hat3 ?_
            walk_at "dx"
            exact ⟨r3 _ hrd2, r9, D9.mono (by omega), (K7.trans B8.keep).trans B9.keep⟩
          · walk_at "dx"
            exact ⟨hrd, r8, D8.mono (by omega), K7.trans B8.keep⟩
      · rintro μ8 ρ8 ⟨rd2, rfl, hrd2, r8, D8, K8⟩
        walk_at "dx"
        refine evx_app ?_
        walk_at "dx"
        refine ⟨p, ro, rfl, r8, ?_⟩
        walk_at "dx"
        refine ⟨ro, r8, by omega, ro ++ [rd2], _, _, rfl, mput_same, by rw [List.length_append, r2]; rfl, ?_, (D8.but hn.1 hn.2).mono (by rw [Int.natCast_add]; omega), K8.new hpμ⟩
        intro e he
        rcases List.mem_append.mp he with he | he
        · exact r3 e he
        · rw [List.mem_singleton] at he; subst he; exact hrd2
  · rintro μ6 ρ6 ⟨ro, u3, u6, rfl, r1, r2, r3, D6, K6⟩
    rw [rangeD_len] at r2 D6
    refine gs_freeze (p := p) (i := 5) r1 rfl rfl ?_
    have D7 : Deck a g (c + 46 + 480) (mcut μ6 p) := (D6.cut hn.1 hn.2).mono (by omega)
    have K7 : Keep a g μ (mcut μ6 p) := K6.off hpμ fun b hb => mcut_ne hb
    generalize mcut μ6 p = μ7 at D7 K7 ⊢
    walk_at "dx"
    refine evx_lst ?_
    walk_at "dx"
    refine evx_lcDk (a := a) (ga := g) (itx_range1 ?_)
    walk_at "dx"
    refine ⟨⟨by omega, by omega⟩, ⟨by rw [rangeD_len]; omega, fun _ => True.intro⟩, ?_⟩
    refine ⟨_, 6, fun i acc => acc.length = i ∧ ∀ d ∈ acc, NumOk d, D7, ⟨rfl, fun _ h => nomatch h⟩, ?_, ?_⟩
    · rintro i d μ' acc hd ha ⟨q1, q2⟩ D3 K3
      obtain ⟨hi2, rfl⟩ := rangeD_get hd
      refine tcx_name (by decide) ?_
      refine evb_yes ?_
      rw [if_pos rfl]
      refine ⟨Keep.refl _ _ _, ?_⟩
      walk_at "dx"
      refine ⟨a, g, _, rfl, D3, by omega, fun μ4 d hd D4 B4 => ⟨B4.keep, D4.mono (by omega), by rw [List.length_append, q1]; rfl, fun e he => ?_⟩⟩
      rcases List.mem_append.mp he with he | he
      · exact q2 e he
      · rw [List.mem_singleton] at he; subst he; exact hd
    rintro μ8 en hel ⟨e1, e2⟩ D8 K8
    rw [hlm] at e1 D8
    walk_at "dx"
    exact hp _ _ _ _ _ hz b2 r3 e2 (by omega) (by omega) (by omega) (D8.mono (by omega)) (K7.trans K8)
end
/-- the signs of a machine -/
def okSigns (cs : List Nat) : Prop := cs.Pairwise (· < ·) ∧ (∀ c ∈ cs, c ∈ letters) ∧ cs ≠ []
def P_csigns (A : Addr) : PD := fun μ ds post exc => ∃ z : Str, ds = [.str z] ∧ (okSigns z.cps.toList → post μ .non) ∧ (¬ okSigns z.cps.toList → exc μ A (.str z))
def lastS (cs : List Nat) : Str := match cs.getLast? with | none => ⟨#[]⟩ | some c => sg c
theorem lastS_snoc (cs : List Nat) (c : Nat) : lastS (cs ++ [c]) = sg c := by unfold lastS; rw [List.getLast?_concat]
theorem le_last (cs : List Nat) (c : Nat) (h : cs.Pairwise (· < ·)) : (!decide ((lastS cs).cps.toList < (sg c).cps.toList)) = true ↔ ¬ (cs ++ [c]).Pairwise (· < ·) := by
  have e : ∀ a b : Nat, ((sg a).cps.toList < (sg b).cps.toList) ↔ a < b := fun a b => by
    have h1 : decide ((sg a).cps.toList < (sg b).cps.toList) = decide (a < b) := by
      rw [← PyProof.Rows.ltCps_eq]
      simp [ltCps, sg]
    exact decide_eq_decide.mp h1
  rw [Bool.not_eq_true', decide_eq_false_iff_not]
  refine not_congr ?_
  rcases List.eq_nil_or_concat cs with rfl | ⟨ds, d, rfl⟩
  · refine ⟨fun _ => List.pairwise_singleton _ _, fun _ => ?_⟩
    exact List.nil_lt_cons c []
  · rw [List.concat_eq_append] at h ⊢
    rw [lastS_snoc, e]
    refine ⟨fun hl => ?_, fun hp => ?_⟩
    · rw [List.pairwise_append]
      refine ⟨h, List.pairwise_singleton _ _, fun x hx y hy => ?_⟩
      rw [List.mem_singleton] at hy
      subst hy
      rcases List.mem_append.mp hx with hx | hx
      · have := (List.pairwise_append.mp h).2.2 x hx d (List.mem_singleton.mpr rfl)
        omega
      · rw [List.mem_singleton] at hx; omega
    · exact (List.pairwise_append.mp hp).2.2 d (List.mem_append_right _ (List.mem_singleton.mpr rfl)) c (List.mem_singleton.mpr rfl)
section
variable {P : Program} {w : World} {K : PySem.W.Frag} {mg : Str → Option Value} {base : Heap} {fI : Addr}
theorem c_csigns {A_InvalidSigns : Addr} {tL : Tok} (h : Std K mg "checked_signs" s_checked_signs) (m_LETTERS : mg "LETTERS" = some (.str "abcdefghijklmnopqrstuvwxyz" tL)) (X_InvalidSigns : ExcD K mg "InvalidSigns" A_InvalidSigns fI) (G_init : IniD P w K mg base fI) : Cal P w K mg base (L2.CX P w) 3 "checked_signs" s_checked_signs ["signs"] (spD K 1 (P_csigns A_InvalidSigns)) := by
  refine calX h sc_checked_signs (fun _ _ _ _ _ _ us hl => match us, hl with | [_], _ => rfl) fun f cdv A outer s H E hr => ⟨_,
    have hu64 := hr.units; (pss_cons (ps_set (i := 1) sc_checked_signs.nd rfl (Or.inl rfl) pe_str)
 (pss_cons (ps_for (passes_of rfl) rfl (pi_str (pv 0)) (pg_name (i := 2) sc_checked_signs.nd rfl (Or.inl rfl))
 (pss_cons (ps_if (PW.pt (pw_or (pt_cmpR op_notIn_sign (pv 2) (pe_glob (v := .str "abcdefghijklmnopqrstuvwxyz") rfl m_LETTERS ⟨_, rfl⟩) rfl) (pw_or1 (pt_cmpR op_le_str (pv 2) (pv 1) (nomark _)))))
 (pss_one (ps_raiseD X_InvalidSigns G_init hr (by decide) (takes_of rfl rfl rfl rfl) (pa_cons (pv 0) pa_nil)))
 pss_nil)
 (pss_one (ps_set (i := 1) sc_checked_signs.nd rfl (Or.inl rfl) (pv 2)))))
 (pss_one (ps_if (pt_cmpR (op_eqU hu64) (pv 0) pe_str (nomark _))
 (pss_one (ps_raiseD X_InvalidSigns G_init hr (by decide) (takes_of rfl rfl rfl rfl) (pa_cons (pv 0) pa_nil)))
 pss_nil)))), fun μ ds post exc hl hP => ?_⟩
  obtain ⟨z, rfl, hok, hno⟩ := hP
  walk_at "d0"
  walk_at "dx"
  refine gs_for (itx_str ?_)
  walk_at "dx"
  refine ⟨fun i μ' ρ' => μ' = μ ∧ ∃ v : Option D, ρ' = [some (.str z), some (.str (lastS (z.cps.toList.take i))), v] ∧ (z.cps.toList.take i).Pairwise (· < ·) ∧ ∀ c ∈ z.cps.toList.take i, c ∈ letters,
    ⟨rfl, none, rfl, List.Pairwise.nil, fun _ h => nomatch h⟩, fun _ _ _ _ _ => True.intro, ?_, ?_⟩
  · rintro i d μ' ρ' hd ⟨rfl, v, rfl, p1, p2⟩
    rw [signsD_eq, List.getElem?_map] at hd
    cases hc : z.cps.toList[i]? with
    | none => rw [hc] at hd; exact nomatch hd
    | some c =>
      rw [hc] at hd
      cases hd
      have et : z.cps.toList.take (i + 1) = z.cps.toList.take i ++ [c] := by rw [List.take_succ, hc]; rfl
      have hpre : ∀ l : List Nat, l <+: z.cps.toList → okSigns z.cps.toList → l.Pairwise (· < ·) ∧ ∀ c ∈ l, c ∈ letters := fun l hl ho => ⟨ho.1.sublist hl.sublist, fun c hc => ho.2.1 c (hl.subset hc)⟩
      have hpt : z.cps.toList.take i ++ [c] <+: z.cps.toList := by rw [← et]; exact List.take_prefix _ _
      walk_at "dx"
      refine opx_notInSign ?_
      walk_at "dx"
      refine ifN (fun hnl => ?_) (fun hin => ?_)
      · refine ifY rfl ?_
        refine gs_raise X_InvalidSigns.k.ox X_InvalidSigns.k.nv ?_
        walk_at "dx"
        exact hno fun ho => hnl ((hpre _ hpt ho).2 c (List.mem_append_right _ (List.mem_singleton.mpr rfl)))
      · walk_at "dx"
        refine opx_leS ?_
        walk_at "dx"
        have hl := le_last (z.cps.toList.take i) c p1
        cases hb : (!decide ((lastS (z.cps.toList.take i)).cps.toList < (sg c).cps.toList)) with
        | true =>
          refine ifY rfl ?_
          refine gs_raise X_InvalidSigns.k.ox X_InvalidSigns.k.nv ?_
          walk_at "dx"
          exact hno fun ho => hl.mp hb (hpre _ hpt ho).1
        | false =>
          refine ifNo rfl ?_
          walk_at "dx"
          rw [et, lastS_snoc]
          have hp : (z.cps.toList.take i ++ [c]).Pairwise (· < ·) := Classical.byContradiction fun hn => by
            have := hl.mpr hn
            rw [hb] at this
            exact nomatch this
          refine ⟨some (sgD c), rfl, hp, fun e he => ?_⟩
          rcases List.mem_append.mp he with he | he
          · exact p2 e he
          · rw [List.mem_singleton] at he; subst he; exact hin
  · rintro μ' ρ' ⟨rfl, v, rfl, p1, p2⟩
    have eL : (signsD z).length = z.cps.toList.length := by rw [signsD_eq, List.length_map]
    rw [eL, List.take_length] at p1 p2
    walk_at "dx"
    refine ifD (fun e => ?_) (fun e => ?_)
    · refine gs_raise X_InvalidSigns.k.ox X_InvalidSigns.k.nv ?_
      walk_at "dx"
      exact hno fun ho => ho.2.2 (by rw [e]; rfl)
    · walk_at "dx"
      refine hok ⟨p1, p2, fun hn => e ?_⟩
      obtain ⟨⟨l⟩⟩ := z
      have : l = [] := hn
      rw [this]
      rfl
end
def isNum (a b : Int) : Bool := decide (1 ≤ b) && decide (((Nat.gcd a.natAbs b.natAbs : Nat) : Int) = 1)
def P_isnum : PD := fun μ ds post _ => ∃ a b : Int, ds = [numD a b] ∧ post μ (.bl (isNum a b))
def P_checked (A : Addr) : PD := fun μ ds post exc => ∃ a b : Int, ds = [numD a b] ∧ if isNum a b = true then post μ (numD a b) else exc μ A (numD a b)
theorem isNum_pos {a b : Int} (h : isNum a b = true) : 0 < b := by
  unfold isNum at h
  rw [Bool.and_eq_true, decide_eq_true_eq] at h
  omega
section
variable {P : Program} {w : World} {K : PySem.W.Frag} {mg : Str → Option Value} {base : Heap} {A_IN fI : Addr}
theorem c_is_number (h : Std K mg "is_number" s_is_number) (m_gcd : mg "gcd" = some (.builtin "math.gcd")) : Cal P w K mg base CX0 1 "is_number" s_is_number ["value"] (spD K 1 P_isnum) := by
  refine cal0 h sc_is_number (fun _ _ _ _ _ _ us hl => match us, hl with | [_], _ => rfl) fun f cdv A outer s H E hr => ⟨_,
    have hu64 := hr.units; (pss_cons (ps_asg (pv 0) (pg_tup rfl (pgs_cons (pg_name (i := 1) sc_is_number.nd rfl (Or.inl rfl)) (pgs_cons (pg_name (i := 2) sc_is_number.nd rfl (Or.inl rfl)) pgs_nil))))
 (pss_one (ps_ret (pe_and (pe_cmpR op_ge (pv 2) pe_int (nomark _)) (pe_one (pe_cmpR (op_eqU hu64) (pe_callBfun cr_gcd (by rfl) m_gcd (pa_cons (pv 1) (pa_cons (pv 2) pa_nil))) pe_int (nomark _))))))), fun μ ds post exc hl hP => ?_⟩
  obtain ⟨a, b, rfl, hp⟩ := hP
  unfold numD isNum at *
  walk_at "d0"
  walk_at "dx"
  refine ifD (fun hb => ?_) (fun hb => ?_)
  · rw [decide_eq_true hb, Bool.true_and] at hp
    walk_at "dx"
    exact hp
  · rw [decide_eq_false hb, Bool.false_and] at hp
    exact hp
theorem c_checkedX (h : Std K mg "checked" s_checked) (X_InvalidNumber : ExcD K mg "InvalidNumber" A_IN fI) (G_init : IniD P w K mg base fI) (C_is_number : Cal P w K mg base CX0 1 "is_number" s_is_number ["value"] (spD K 1 P_isnum)) : Cal P w K mg base (L2.CX P w) 3 "checked" s_checked ["value"] (spD K 1 (P_checked A_IN)) := by
  refine calX h sc_checked (fun _ _ _ _ _ _ us hl => match us, hl with | [_], _ => rfl) fun f cdv A outer s H E hr => ⟨_,
    have hu64 := hr.units; (pss_cons (ps_if (pt_not (pt_val (pe_c C_is_number hr (by first | decide | omega) (pa_cons (pv 0) pa_nil))))
 (pss_one (ps_raiseD X_InvalidNumber G_init hr (by decide) (takes_of rfl rfl rfl rfl) (pa_cons (pv 0) pa_nil)))
 pss_nil)
 (pss_one (ps_ret (pv 0)))), fun μ ds post exc hl hP => ?_⟩
  obtain ⟨a, b, rfl, hp⟩ := hP
  walk_at "d0"
  walk_at "dx"
  refine ⟨a, b, rfl, ?_⟩
  walk_at "dx"
  cases hn : isNum a b with
  | true =>
    rw [hn, if_pos rfl] at hp
    walk_at "dz"
    exact hp
  | false =>
    rw [hn, if_neg (by decide)] at hp
    walk_at "dz"
    refine gs_raise X_InvalidNumber.k.ox X_InvalidNumber.k.nv ?_
    walk_at "dx"
    exact hp
end
def okSign (y z : Str) : Bool := match y.cps.toList with | [c] => decide (c ∈ z.cps.toList) | _ => false
def P_csign (A : Addr) : PD := fun μ ds post exc => ∃ y z : Str, ds = [.str y, .str z] ∧ y.length ≤ 1000 ∧ (okSign y z = true → post μ .non) ∧ (okSign y z = false → exc μ A (.str y))
def numBad : D → Bool
  | .tup [.int a, .int b] => !isNum a b
  | _ => false
def roadNum : D → D
  | .tup [_, _, _, n] => n
  | _ => .non
def roadBad (z : Str) (n : Nat) : D → Option (Nat × D)
  | .tup [.int s, .str y, .int b, m] => if s < 0 ∨ (n : Int) ≤ s then some (2, .tup [.int s, .str y, .int b, m]) else if okSign y z = false then some (3, .str y) else if b < 0 ∨ (n : Int) ≤ b then some (2, .tup [.int s, .str y, .int b, m]) else none
  | _ => none
instance (cs : List Nat) : Decidable (okSigns cs) := inferInstanceAs (Decidable (_ ∧ _ ∧ _))
/-- what is wrong with the parts of a machine, first; 0 signs, 1 a number, 2 a road or the ends, 3 a road's sign -/
def dueM (z : Str) (be ro en : List D) : Option (Nat × D) :=
  if ¬ okSigns z.cps.toList then some (0, .str z) else
  match be.find? numBad with
  | some d => some (1, d)
  | none => match (ro.map roadNum).find? numBad with
    | some d => some (1, d)
    | none => match en.find? numBad with
      | some d => some (1, d)
      | none => match ro.findSome? (roadBad z be.length) with
        | some e => some e
        | none => if be.length ≠ en.length then some (2, .lst en) else none
def told (cls : Nat → Addr) (μ : Mu) (post : DP) (exc : Mu → Addr → D → Prop) : Option (Nat × D) → Prop
  | none => post μ .non
  | some (k, d) => exc μ (cls k) d
def P_cmachine (cls : Nat → Addr) : PD := fun μ ds post exc => ∃ (z : Str) (be ro en : List D), ds = [.str z, .lst be, .lst ro, .lst en] ∧ (∀ d ∈ be, NumOk d) ∧ (∀ d ∈ ro, RoadOk d) ∧ (∀ d ∈ en, NumOk d) ∧ be.length ≤ 1000 ∧ ro.length ≤ 1000 ∧ en.length ≤ 1000 ∧ told cls μ post exc (dueM z be ro en)
theorem find_first {α : Type} {p : α → Bool} {d : α} : ∀ {l : List α} {i : Nat}, l[i]? = some d → (∀ e ∈ l.take i, p e = false) → p d = true → l.find? p = some d
  | x :: l, 0, h, _, hd => by
    cases h
    rw [List.find?_cons, hd]
  | x :: l, i + 1, h, hp, hd => by
    rw [List.find?_cons, hp x (by rw [List.take_succ_cons]; exact List.mem_cons_self ..)]
    exact find_first (l := l) (i := i) h (fun e he => hp e (by rw [List.take_succ_cons]; exact List.mem_cons_of_mem _ he)) hd
theorem find_none {α : Type} {p : α → Bool} {l : List α} (h : ∀ e ∈ l, p e = false) : l.find? p = none := by
  rw [List.find?_eq_none]
  intro e he
  rw [h e he]
  decide
theorem some_first {α β : Type} {f : α → Option β} {d : α} {b : β} : ∀ {l : List α} {i : Nat}, l[i]? = some d → (∀ e ∈ l.take i, f e = none) → f d = some b → l.findSome? f = some b
  | x :: l, 0, h, _, hd => by
    cases h
    rw [List.findSome?_cons, hd]
  | x :: l, i + 1, h, hp, hd => by
    rw [List.findSome?_cons, hp x (by rw [List.take_succ_cons]; exact List.mem_cons_self ..)]
    exact some_first (l := l) (i := i) h (fun e he => hp e (by rw [List.take_succ_cons]; exact List.mem_cons_of_mem _ he)) hd
theorem some_none {α β : Type} {f : α → Option β} {l : List α} (h : ∀ e ∈ l, f e = none) : l.findSome? f = none := by
  rw [List.findSome?_eq_none_iff]
  exact h
theorem take_succ' {α : Type} {l : List α} {i : Nat} {d : α} (h : l[i]? = some d) : l.take (i + 1) = l.take i ++ [d] := by rw [List.take_succ, h]; rfl
theorem mem_snoc {α : Type} {l : List α} {d : α} {P : α → Prop} (h : ∀ e ∈ l, P e) (hd : P d) : ∀ e ∈ l ++ [d], P e := fun e he => by
  rcases List.mem_append.mp he with he | he
  · exact h e he
  · rw [List.mem_singleton] at he; subst he; exact hd
section
variable {P : Program} {w : World} {K : PySem.W.Frag} {mg : Str → Option Value} {base : Heap} {fI : Addr}
theorem c_csign {A_UnknownSign : Addr} (h : Std K mg "checked_sign" s_checked_sign) (n_len : mg "len" = none) (X_UnknownSign : ExcD K mg "UnknownSign" A_UnknownSign fI) (G_init : IniD P w K mg base fI) : Cal P w K mg base (L2.CX P w) 3 "checked_sign" s_checked_sign ["sign", "signs"] (spD K 2 (P_csign A_UnknownSign)) := by
  refine calX h sc_checked_sign (fun _ _ _ _ _ _ us hl => match us, hl with | [_, _], _ => rfl) fun f cdv A outer s H E hr => ⟨_,
    have hu64 := hr.units; (pss_one (ps_if (PW.pt (pw_or (pt_cmpR (op_neU hu64) (pe_callB call_len (by rfl) n_len (by decide +kernel) (pa_cons (pv 0) pa_nil)) pe_int (nomark _)) (pw_or1 (pt_cmpR op_notIn_sign (pv 0) (pv 1) rfl))))
 (pss_one (ps_raiseD X_UnknownSign G_init hr (by decide) (takes_of rfl rfl rfl rfl) (pa_cons (pv 0) pa_nil)))
 pss_nil)), fun μ ds post exc hl hP => ?_⟩
  obtain ⟨y, z, rfl, hy, hok, hno⟩ := hP
  walk_at "d0"
  walk_at "dx"
  refine cax_len (n := y.length) ⟨by omega, rfl⟩ ?_
  walk_at "dx"
  have hl : y.length = y.cps.toList.length := Array.length_toList.symm
  refine ifN (fun hn => ?_) (fun h1 => ?_)
  · refine ifY rfl ?_
    refine gs_raise X_UnknownSign.k.ox X_UnknownSign.k.nv ?_
    walk_at "dx"
    refine hno ?_
    unfold okSign
    split
    · next c hc => rw [hc] at hl; exact absurd (by rw [hl]; rfl) hn
    · rfl
  · obtain ⟨c, rfl⟩ : ∃ c, y = sg c := by
      obtain ⟨⟨l⟩⟩ := y
      have hl1 : l.length = 1 := by
        have : (l.length : Int) = 1 := h1
        omega
      obtain ⟨c, rfl⟩ := List.length_eq_one_iff.mp hl1
      exact ⟨c, rfl⟩
    walk_at "dx"
    refine opx_notInSign ?_
    walk_at "dx"
    refine ifN (fun hn => ?_) (fun hin => ?_)
    · refine gs_raise X_UnknownSign.k.ox X_UnknownSign.k.nv ?_
      walk_at "dx"
      exact hno (decide_eq_false hn)
    · walk_at "dx"
      exact hok (decide_eq_true hin)
theorem c_cmachine {A_InvalidSigns A_InvalidNumber A_InvalidMachine A_UnknownSign : Addr} (h : Std K mg "checked_machine" s_checked_machine) (n_len : mg "len" = none) (n_list : mg "list" = none) (X_InvalidMachine : ExcD K mg "InvalidMachine" A_InvalidMachine fI) (G_init : IniD P w K mg base fI)
    (C_checked_signsX : Cal P w K mg base (L2.CX P w) 3 "checked_signs" s_checked_signs ["signs"] (spD K 1 (P_csigns A_InvalidSigns))) (C_checkedX : Cal P w K mg base (L2.CX P w) 3 "checked" s_checked ["value"] (spD K 1 (P_checked A_InvalidNumber))) (C_checked_signX : Cal P w K mg base (L2.CX P w) 3 "checked_sign" s_checked_sign ["sign", "signs"] (spD K 2 (P_csign A_UnknownSign))) (cls : Nat → Addr) (k0 : cls 0 = A_InvalidSigns) (k1 : cls 1 = A_InvalidNumber) (k2 : cls 2 = A_InvalidMachine) (k3 : cls 3 = A_UnknownSign) :
    Cal P w K mg base (L2.CX P w) 4 "checked_machine" s_checked_machine ["signs", "begin", "roads", "end"] (spD K 4 (P_cmachine cls)) := by
  refine calX h sc_checked_machine (fun _ _ _ _ _ _ us hl => match us, hl with | [_, _, _, _], _ => rfl) fun f cdv A outer s H E hr => ⟨_,
    have hu64 := hr.units; (pss_cons (ps_expr (pe_cS C_checked_signsX hr (by decide) (takes_of rfl rfl rfl rfl) (pa_cons (pv 0) pa_nil)))
 (pss_cons (ps_for (passes_of rfl) rfl (pi_list (pv 1)) (pg_name (i := 4) sc_checked_machine.nd rfl (Or.inl rfl))
 (pss_one (ps_expr (pe_cS C_checkedX hr (by decide) (takes_of rfl rfl rfl rfl) (pa_cons (pv 4) pa_nil)))))
 (pss_cons (ps_for (passes_of rfl) rfl (pi_list (pv 2)) (pg_name (i := 5) sc_checked_machine.nd rfl (Or.inl rfl))
 (pss_one (ps_expr (pe_cS C_checkedX hr (by decide) (takes_of rfl rfl rfl rfl) (pa_cons (pe_ix ix_seq (pv 5) pe_int (fun _ _ => rfl)) pa_nil)))))
 (pss_cons (ps_for (passes_of rfl) rfl (pi_list (pv 3)) (pg_name (i := 4) sc_checked_machine.nd rfl (Or.inl rfl))
 (pss_one (ps_expr (pe_cS C_checkedX hr (by decide) (takes_of rfl rfl rfl rfl) (pa_cons (pv 4) pa_nil)))))
 (pss_cons (ps_for (passes_of rfl) rfl (pi_list (pv 2)) (pg_name (i := 5) sc_checked_machine.nd rfl (Or.inl rfl))
 (pss_cons (ps_if (pt_not (pt_chain op_le op_lt pe_int (pe_ix ix_seq (pv 5) pe_int (fun _ _ => rfl)) (pe_callB call_len (by rfl) n_len (by decide +kernel) (pa_cons (pv 1) pa_nil))))
 (pss_one (ps_raiseD X_InvalidMachine G_init hr (by decide) (takes_of rfl rfl rfl rfl) (pa_cons (pv 5) pa_nil)))
 pss_nil)
 (pss_cons (ps_expr (pe_cS C_checked_signX hr (by decide) (takes_of rfl rfl rfl rfl) (pa_cons (pe_ix ix_seq (pv 5) pe_int (fun _ _ => rfl)) (pa_cons (pv 0) pa_nil))))
 (pss_one (ps_if (pt_not (pt_chain op_le op_lt pe_int (pe_ix ix_seq (pv 5) pe_int (fun _ _ => rfl)) (pe_callB call_len (by rfl) n_len (by decide +kernel) (pa_cons (pv 1) pa_nil))))
 (pss_one (ps_raiseD X_InvalidMachine G_init hr (by decide) (takes_of rfl rfl rfl rfl) (pa_cons (pv 5) pa_nil)))
 pss_nil)))))
 (pss_one (ps_if (pt_cmpR (op_neU hu64) (pe_callB call_len (by rfl) n_len (by decide +kernel) (pa_cons (pv 1) pa_nil)) (pe_callB call_len (by rfl) n_len (by decide +kernel) (pa_cons (pv 3) pa_nil)) (nomark _))
 (pss_one (ps_raiseD X_InvalidMachine G_init hr (by decide) (takes_of rfl rfl rfl rfl) (pa_cons (pe_callTy call_list_of (by rfl) n_list (by decide +kernel) (pa_cons (pv 3) pa_nil)) pa_nil)))
 pss_nil))))))), fun μ ds post exc hl hP => ?_⟩
  obtain ⟨z, be, ro, en, rfl, hbe, hro, hen, lb, lr, le, ht⟩ := hP
  subst k0 k1 k2 k3
  walk_at "d0"
  walk_at "dx"
  refine ⟨z, rfl, fun hs => ?_, fun hs => ?_⟩
  rotate_left
  · unfold dueM at ht
    rw [if_pos hs] at ht
    exact ht
  unfold dueM at ht
  rw [if_neg (fun hn => hn hs)] at ht
  walk_at "dx"
  refine gs_for (itx_list ?_)
  walk_at "dx"
  refine ⟨_, _, isL_lst, ?_⟩
  refine ⟨fun i μ' ρ' => μ' = μ ∧ (∀ e ∈ be.take i, numBad e = false) ∧ ∃ u4 : Option D, ρ' = [some (.str z), some (.lst be), some (.lst ro), some (.lst en), u4, none], ⟨rfl, (fun _ h => nomatch h), none, rfl⟩, fun _ _ _ _ _ => True.intro, ?_, ?_⟩
  · rintro i d μ' ρ' hd ⟨rfl, hg, u4, rfl⟩
    obtain ⟨a, b, rfl, _, _⟩ := hbe d (List.mem_of_getElem? hd)
    walk_at "dx"
    refine ⟨a, b, rfl, ?_⟩
    cases hn : isNum a b with
    | false =>
      rw [if_neg (by decide)]
      rw [find_first hd hg (show numBad (numD a b) = true by show (!isNum a b) = true; rw [hn]; rfl)] at ht
      exact ht
    | true =>
      rw [if_pos rfl]
      walk_at "dx"
      rw [take_succ' hd]
      exact ⟨mem_snoc hg (by show (!isNum a b) = false; rw [hn]; rfl), _, rfl⟩
  rintro μ1 ρ1 ⟨rfl, g1, u4, rfl⟩
  rw [List.take_length] at g1
  rw [find_none g1] at ht
  dsimp only at ht
  walk_at "dx"
  refine gs_for (itx_list ?_)
  walk_at "dx"
  refine ⟨_, _, isL_lst, ?_⟩
  refine ⟨fun i μ' ρ' => μ' = μ1 ∧ (∀ e ∈ (ro.map roadNum).take i, numBad e = false) ∧ ∃ u5 : Option D, ρ' = [some (.str z), some (.lst be), some (.lst ro), some (.lst en), u4, u5], ⟨rfl, (fun _ h => nomatch h), none, rfl⟩, fun _ _ _ _ _ => True.intro, ?_, ?_⟩
  · rintro i d μ' ρ' hd ⟨rfl, hg, u5, rfl⟩
    obtain ⟨s, b, y, x1, x2, rfl, _, _, _, _, _⟩ := hro d (List.mem_of_getElem? hd)
    have hd2 : (ro.map roadNum)[i]? = some (numD x1 x2) := by rw [List.getElem?_map, hd]; rfl
    walk_at "dx"
    refine ⟨x1, x2, rfl, ?_⟩
    cases hn : isNum x1 x2 with
    | false =>
      rw [if_neg (by decide)]
      rw [find_first hd2 hg (show numBad (numD x1 x2) = true by show (!isNum x1 x2) = true; rw [hn]; rfl)] at ht
      exact ht
    | true =>
      rw [if_pos rfl]
      walk_at "dx"
      rw [take_succ' hd2]
      exact ⟨mem_snoc hg (by show (!isNum x1 x2) = false; rw [hn]; rfl), _, rfl⟩
  rintro μ2 ρ2 ⟨rfl, g2, u5, rfl⟩
  rw [← List.length_map (f := roadNum), List.take_length] at g2
  rw [find_none g2] at ht
  dsimp only at ht
  walk_at "dx"
  refine gs_for (itx_list ?_)
  walk_at "dx"
  refine ⟨_, _, isL_lst, ?_⟩
  refine ⟨fun i μ' ρ' => μ' = μ2 ∧ (∀ e ∈ en.take i, numBad e = false) ∧ ∃ u4 : Option D, ρ' = [some (.str z), some (.lst be), some (.lst ro), some (.lst en), u4, u5], ⟨rfl, (fun _ h => nomatch h), _, rfl⟩, fun _ _ _ _ _ => True.intro, ?_, ?_⟩
  · rintro i d μ' ρ' hd ⟨rfl, hg, u4, rfl⟩
    obtain ⟨a, b, rfl, _, _⟩ := hen d (List.mem_of_getElem? hd)
    walk_at "dx"
    refine ⟨a, b, rfl, ?_⟩
    cases hn : isNum a b with
    | false =>
      rw [if_neg (by decide)]
      rw [find_first hd hg (show numBad (numD a b) = true by show (!isNum a b) = true; rw [hn]; rfl)] at ht
      exact ht
    | true =>
      rw [if_pos rfl]
      walk_at "dx"
      rw [take_succ' hd]
      exact ⟨mem_snoc hg (by show (!isNum a b) = false; rw [hn]; rfl), _, rfl⟩
  rintro μ3 ρ3 ⟨rfl, g3, u4, rfl⟩
  rw [List.take_length] at g3
  rw [find_none g3] at ht
  dsimp only at ht
  walk_at "dx"
  refine gs_for (itx_list ?_)
  walk_at "dx"
  refine ⟨_, _, isL_lst, ?_⟩
  refine ⟨fun i μ' ρ' => μ' = μ3 ∧ (∀ e ∈ ro.take i, roadBad z be.length e = none) ∧ ∃ u5 : Option D, ρ' = [some (.str z), some (.lst be), some (.lst ro), some (.lst en), u4, u5], ⟨rfl, (fun _ h => nomatch h), _, rfl⟩, fun _ _ _ _ _ => True.intro, ?_, ?_⟩
  · rintro i d μ' ρ' hd ⟨rfl, hg, u5, rfl⟩
    obtain ⟨s, b, y, x1, x2, rfl, _, _, hy, _, _⟩ := hro d (List.mem_of_getElem? hd)
    have hbad : ∀ e, roadBad z be.length (.tup [.int s, .str y, .int b, numD x1 x2]) = some e → told cls μ' post exc (some e) := fun e he => by
      rw [some_first hd hg he] at ht
      exact ht
    have hnone : ¬ (s < 0 ∨ (be.length : Int) ≤ s) → okSign y z = true → ¬ (b < 0 ∨ (be.length : Int) ≤ b) → roadBad z be.length (.tup [.int s, .str y, .int b, numD x1 x2]) = none := fun q1 q2 q3 => by
      unfold roadBad
      dsimp only
      rw [if_neg q1, if_neg (by rw [q2]; decide), if_neg q3]
    unfold roadBad at hbad
    dsimp only at hbad
    have raise : ∀ (ρ : Ro) (Ef : ED) (q : exc μ' (cls 2) (.tup [.int s, .str y, .int b, numD x1 x2])) (hρ : ρ[5]? = some (some (.tup [.int s, .str y, .int b, numD x1 x2]))),
        GS K (fun cls d x H => E cls d H) (fun m x C d => exc m C d) μ' ρ (tRaiseO (cls 2) (fun cls d x H => E cls d H) (spInit K (Str.ofString "value")) (tCons (tVar 5) tNil)) Ef := fun ρ Ef q hρ => by
      refine gs_raise X_InvalidMachine.k.ox X_InvalidMachine.k.nv ?_
      exact evl_cons (evx_var hρ (evl_nil ⟨_, rfl, q⟩))
    walk_at "dx"
    refine evx_chain ?_
    walk_at "dx"
    refine ifD (fun h0 => ?_) (fun h0 => ?_)
    rotate_left
    · walk_at "dz"
      exact raise _ _ (hbad _ (if_pos (.inl (by omega)))) rfl
    walk_at "dx"
    refine ifN (fun h1 => ?_) (fun h1 => ?_)
    · exact raise _ _ (hbad _ (if_pos (.inr (by omega)))) rfl
    rw [if_neg (by omega)] at hbad
    walk_at "dx"
    refine ⟨y, z, rfl, by have := hy.1; omega, fun hok => ?_, fun hno => ?_⟩
    rotate_left
    · exact hbad _ (if_pos hno)
    rw [if_neg (by rw [hok]; decide)] at hbad
    walk_at "dx"
    refine evx_chain ?_
    walk_at "dx"
    refine ifD (fun h2 => ?_) (fun h2 => ?_)
    rotate_left
    · walk_at "dz"
      exact raise _ _ (hbad _ (if_pos (.inl (by omega)))) rfl
    walk_at "dx"
    refine ifN (fun h3 => ?_) (fun h3 => ?_)
    · exact raise _ _ (hbad _ (if_pos (.inr (by omega)))) rfl
    walk_at "dx"
    rw [take_succ' hd]
    exact ⟨mem_snoc hg (hnone (by omega) hok (by omega)), _, rfl⟩
  rintro μ4 ρ4 ⟨rfl, g4, u5, rfl⟩
  rw [List.take_length] at g4
  rw [some_none g4] at ht
  dsimp only at ht
  walk_at "dx"
  refine ifN (fun hn => ?_) (fun he => ?_)
  · rw [if_pos (by omega)] at ht
    refine gs_raise X_InvalidMachine.k.ox X_InvalidMachine.k.nv ?_
    walk_at "dx"
    refine cax_listL isL_lst ?_
    walk_at "dx"
    exact ht
  · rw [if_neg (by omega)] at ht
    walk_at "dx"
    exact ht
end
/-- the steps of a sign, over one number below -/
def belowL (z : Str) (ro : List D) : Nat := ro.foldl (fun L d => match d with
  | .tup [_, .str y, _, .tup [_, .int v]] => if y = z then Nat.lcm L v.natAbs else L
  | _ => L) 1
def stepD (z : Str) (L : Int) : D → Option D
  | .tup [.int s, .str y, .int b, .tup [.int x, .int v]] => if y = z ∧ x ≠ 0 then some (.tup [.int s, .int b, .int (x * L.fdiv v)]) else none
  | _ => none
/-- a road whose number is one -/
def RoadGood (d : D) : Prop := RoadOk d ∧ numBad (roadNum d) = false
theorem RoadGood.is {d : D} (h : RoadGood d) : ∃ (s b : Int) (z : Str) (x y : Int), d = .tup [.int s, .str z, .int b, numD x y] ∧ In10 s ∧ In10 b ∧ TxtOk z ∧ In10 x ∧ In10 y ∧ 0 < y := by
  obtain ⟨⟨s, b, z, x, y, rfl, h1, h2, h3, h4, h5⟩, h6⟩ := h
  refine ⟨s, b, z, x, y, rfl, h1, h2, h3, h4, h5, isNum_pos (a := x) ?_⟩
  have : (!isNum x y) = false := h6
  rwa [Bool.not_eq_false'] at this
def P_steps : PD := fun μ ds post _ => ∃ (z : Str) (ro : List D), ds = [.lst ro, .str z] ∧ (∀ d ∈ ro, RoadGood d) ∧ ro.length ≤ 24 ∧ post μ (.tup [.lst (ro.filterMap (stepD z (belowL z ro))), .int (belowL z ro)])
theorem belowL_snoc (z : Str) (ro : List D) (s b : Int) (y : Str) (x v : Int) : belowL z (ro ++ [.tup [.int s, .str y, .int b, numD x v]]) = if y = z then Nat.lcm (belowL z ro) v.natAbs else belowL z ro := by
  unfold belowL
  rw [List.foldl_append]
  rfl
theorem belowL_lt (z : Str) : ∀ (n : Nat) (ro : List D), ro.length = n → (∀ d ∈ ro, RoadGood d) → 0 < belowL z ro ∧ belowL z ro < 2 ^ (34 * n + 1)
  | 0, ro, hn, _ => by
    have := List.eq_nil_of_length_eq_zero hn
    subst this
    exact ⟨Nat.one_pos, (by decide : 1 < 2 ^ (34 * 0 + 1))⟩
  | n + 1, ro, hn, h => by
    rcases List.eq_nil_or_concat ro with rfl | ⟨ds, d, rfl⟩
    · exact nomatch hn
    rw [List.concat_eq_append] at hn h ⊢
    rw [List.length_append, List.length_singleton] at hn
    obtain ⟨i1, i2⟩ := belowL_lt z n ds (by omega) fun e he => h e (List.mem_append_left _ he)
    obtain ⟨s, b, y, x, v, rfl, _, _, _, _, hv, hv0⟩ := (h d (List.mem_append_right _ (List.mem_singleton.mpr rfl))).is
    rw [belowL_snoc]
    have hp : 2 ^ (34 * (n + 1) + 1) = 2 ^ (34 * n + 1) * 2 ^ 34 := by rw [← Nat.pow_add]; congr 1
    have h34 : v.natAbs < 2 ^ 34 := by unfold In10 at hv; omega
    split
    · refine ⟨Nat.lcm_pos i1 (by omega), ?_⟩
      have h1 : (belowL z ds).lcm v.natAbs ≤ belowL z ds * v.natAbs := Nat.div_le_self _ _
      rw [hp]
      exact Nat.lt_of_le_of_lt h1 (Nat.mul_lt_mul'' i2 h34)
    · refine ⟨i1, Nat.lt_of_lt_of_le i2 (Nat.pow_le_pow_right (by decide) (by omega))⟩
theorem mcut_put {μ : Mu} {p : Addr} {o : MO} (h : μ p = none) : mcut (mput μ p o) p = μ := by
  funext b
  by_cases hb : b = p
  · subst hb; rw [mcut_same, h]
  · rw [mcut_ne hb, mput_ne hb]
theorem mput_put {μ : Mu} {p : Addr} {o o' : MO} : mput (mput μ p o) p o' = mput μ p o' := by
  funext b
  by_cases hb : b = p
  · subst hb; rw [mput_same, mput_same]
  · rw [mput_ne hb, mput_ne hb, mput_ne hb]
section
variable {P : Program} {w : World} {K : PySem.W.Frag} {mg : Str → Option Value} {base : Heap} {fI : Addr}
theorem c_steps (h : Std K mg "steps_of" s_steps_of) (m_lcm : mg "lcm" = some (.builtin "math.lcm")) : Cal P w K mg base CX0 1 "steps_of" s_steps_of ["roads", "sign"] (spD K 2 P_steps) := by
  refine cal0 h sc_steps_of (fun _ _ _ _ _ _ us hl => match us, hl with | [_, _], _ => rfl) fun f cdv A outer s H E hr => ⟨_,
    have hu64 := hr.units; (pss_cons (ps_set (i := 2) sc_steps_of.nd rfl (Or.inl rfl) pe_int)
 (pss_cons (ps_for PassesOwn.never rfl (pi_list (pv 0)) (pg_name (i := 3) sc_steps_of.nd rfl (Or.inl rfl))
 (pss_one (ps_if (pt_cmpR (op_eqU hu64) (pe_ix ix_seq (pv 3) pe_int (fun _ _ => rfl)) (pv 1) (nomark _))
 (pss_one (ps_set (i := 2) sc_steps_of.nd rfl (Or.inl rfl) (pe_callBfun cr_lcm (by rfl) m_lcm (pa_cons (pv 2) (pa_cons (pe_ix ix_seq (pe_ix ix_seq (pv 3) pe_int (fun _ _ => rfl)) pe_int (fun _ _ => rfl)) pa_nil)))))
 pss_nil)))
 (pss_cons (ps_set (i := 4) sc_steps_of.nd rfl (Or.inl rfl) (pe_lst pa_nil))
 (pss_cons (ps_for PassesOwn.never rfl (pi_list (pv 0)) (pg_tup rfl (pgs_cons (pg_name (i := 5) sc_steps_of.nd rfl (Or.inl rfl)) (pgs_cons (pg_name (i := 6) sc_steps_of.nd rfl (Or.inl rfl)) (pgs_cons (pg_name (i := 7) sc_steps_of.nd rfl (Or.inl rfl)) (pgs_cons (pg_name (i := 8) sc_steps_of.nd rfl (Or.inl rfl)) pgs_nil)))))
 (pss_one (ps_if (PW.pt (pw_and (pt_cmpR (op_eqU hu64) (pv 6) (pv 1) (nomark _)) (pw_and1 (pt_cmpR (op_neU hu64) (pe_ix ix_seq (pv 8) pe_int (fun _ _ => rfl)) pe_int (nomark _)))))
 (pss_one (ps_expr (pe_bm PySem.F.plainAttrs_list PySem.F.slot_list_append PySem.F.type_list_append mt_append (pv 4) (pa_cons (pe_tup (pa_cons (pv 5) (pa_cons (pv 7) (pa_cons (pe_op op_mulU (pe_ix ix_seq (pv 8) pe_int (fun _ _ => rfl)) (pe_op op_divB (pv 2) (pe_ix ix_seq (pv 8) pe_int (fun _ _ => rfl)))) pa_nil)))) pa_nil))))
 pss_nil)))
 (pss_one (ps_ret (pe_tup (pa_cons (pv 4) (pa_cons (pv 2) pa_nil))))))))), fun μ ds post exc hl hP => ?_⟩
  obtain ⟨z, ro, rfl, hro, hlen, hp⟩ := hP
  have hB := belowL_lt z ro.length ro rfl hro
  walk_at "d0"
  walk_at "dx"
  refine gs_for (itx_list ?_)
  walk_at "dx"
  refine ⟨_, _, isL_lst, ?_⟩
  refine ⟨fun i μ' ρ' => μ' = μ ∧ ∃ u3 : Option D, ρ' = [some (.lst ro), some (.str z), some (.int (belowL z (ro.take i))), u3, none, none, none, none, none], ⟨rfl, none, rfl⟩, fun _ _ _ _ _ => True.intro, ?_, ?_⟩
  · rintro i d μ' ρ' hd ⟨rfl, u3, rfl⟩
    have hi : i < ro.length := (List.getElem?_eq_some_iff.mp hd).1
    obtain ⟨s, b, y, x, v, rfl, _, _, _, _, hv, hv0⟩ := (hro d (List.mem_of_getElem? hd)).is
    obtain ⟨b0, b1⟩ := belowL_lt z i (ro.take i) (by rw [List.length_take]; omega) fun e he => hro e ((List.take_prefix _ _).subset he)
    have hb6 : belowL z (ro.take i) < 2 ^ 6000 := Nat.lt_of_lt_of_le b1 (Nat.pow_le_pow_right (by decide) (by omega))
    have hv6 : v.natAbs < 2 ^ 6000 := Nat.lt_of_lt_of_le (show v.natAbs < 2 ^ 34 by unfold In10 at hv; omega) (Nat.pow_le_pow_right (by decide) (by decide))
    have et := belowL_snoc z (ro.take i) s b y x v
    rw [← take_succ' hd] at et
    unfold numD at *
    walk_at "dx"
    refine ifD (fun hy => ?_) (fun hy => ?_)
    · rw [if_pos hy] at et
      walk_at "dx"
      refine cax_lcm (by rw [Int.natAbs_natCast]; exact hb6) hv6 ?_
      walk_at "dx"
      rw [et, Int.natAbs_natCast]
      exact ⟨_, rfl⟩
    · rw [if_neg hy] at et
      walk_at "dx"
      rw [et]
      exact ⟨_, rfl⟩
  rintro μ1 ρ1 ⟨rfl, u3, rfl⟩
  rw [List.take_length]
  generalize hBe : belowL z ro = B at hB hp ⊢
  walk_at "dx"
  refine evx_lstM ?_
  walk_at "dx"
  intro p hp0
  walk_at "dx"
  refine gs_for (itx_list ?_)
  walk_at "dx"
  refine ⟨_, _, isL_lst, ?_⟩
  refine ⟨fun i μ' ρ' => μ' = mput μ1 p (.lst ((ro.take i).filterMap (stepD z B))) ∧ ∃ u5 u6 u7 u8 : Option D, ρ' = [some (.lst ro), some (.str z), some (.int B), u3, some (.at p), u5, u6, u7, u8], ⟨rfl, none, none, none, none, rfl⟩, fun _ _ _ _ _ => True.intro, ?_, ?_⟩
  · rintro i d μ' ρ' hd ⟨rfl, u5, u6, u7, u8, rfl⟩
    obtain ⟨s, b, y, x, v, rfl, _, _, _, hx, hv, hv0⟩ := (hro d (List.mem_of_getElem? hd)).is
    have hB9 : B < 2 ^ 1000 := Nat.lt_of_lt_of_le hB.2 (Nat.pow_le_pow_right (by decide) (by omega))
    have hdv : CDivB (B : Int) v := ⟨by omega, Nat.lt_of_lt_of_le (show v.natAbs < 2 ^ 34 by unfold In10 at hv; omega) (Nat.pow_le_pow_right (by decide) (by decide))⟩
    have hq : ((B : Int).fdiv v).natAbs < 2 ^ 1000 := by
      rw [Int.fdiv_eq_ediv_of_nonneg _ (by omega)]
      have := Int.natAbs_ediv_le_natAbs (B : Int) v
      rw [Int.natAbs_natCast] at this
      omega
    have hm : CMulB x ((B : Int).fdiv v) := ⟨64, 1000, by unfold In10 at hx; omega, hq, by decide⟩
    have et : (ro.take (i + 1)).filterMap (stepD z B) = (ro.take i).filterMap (stepD z B) ++ (if y = z ∧ x ≠ 0 then [.tup [.int s, .int b, .int (x * (B : Int).fdiv v)]] else []) := by
      rw [take_succ' hd, List.filterMap_append]
      congr 1
      have est : stepD z B (.tup [.int s, .str y, .int b, numD x v]) = if y = z ∧ x ≠ 0 then some (.tup [.int s, .int b, .int (x * (B : Int).fdiv v)]) else none := rfl
      by_cases hc : y = z ∧ x ≠ 0
      · rw [if_pos hc] at est ⊢
        rw [List.filterMap_cons, est]
        rfl
      · rw [if_neg hc] at est ⊢
        rw [List.filterMap_cons, est]
        rfl
    have hz : ((ro.take i).filterMap (stepD z B)).length ≤ 24 := by
      have := List.length_filterMap_le (stepD z B) (ro.take i)
      rw [List.length_take] at this
      omega
    unfold numD at *
    walk_at "dx"
    refine ifD (fun hy => ?_) (fun hy => ?_)
    · walk_at "dx"
      refine ifN (fun hx0 => ?_) (fun hx0 => ?_)
      · walk_at "dx"
        refine evx_app ?_
        walk_at "dx"
        refine ⟨p, _, rfl, mput_same, ?_⟩
        walk_at "dx"
        refine ⟨_, mput_same, by omega, ?_⟩
        rw [mput_put, et, if_pos ⟨hy, hx0⟩]
        exact ⟨rfl, _, _, _, _, rfl⟩
      · walk_at "dz"
        rw [et, if_neg (fun q => q.2 hx0), List.append_nil]
        exact ⟨rfl, _, _, _, _, rfl⟩
    · walk_at "dz"
      rw [et, if_neg (fun q => hy q.1), List.append_nil]
      exact ⟨rfl, _, _, _, _, rfl⟩
  rintro μ2 ρ2 ⟨rfl, u5, u6, u7, u8, rfl⟩
  rw [List.take_length]
  refine gs_freeze (p := p) (i := 4) mput_same rfl rfl ?_
  rw [mcut_put hp0]
  walk_at "dx"
  exact hp
end
section
variable {P : Program} {w : World} {K : PySem.W.Frag} {mg : Str → Option Value} {base : Heap}
theorem c_wnum (h : Std K mg "_law_wrong_number" s__law_wrong_number) (C__law_draw : Cal P w K mg base CX0 1 "_law_draw" s__law_draw ["_law_deck_here", "_law_limit"] (spD K 2 P_draw)) : Cal P w K mg base CX0 2 "_law_wrong_number" s__law_wrong_number ["_law_deck_here"] (spD K 1 P_num) := by
  refine cal0 h sc__law_wrong_number (fun _ _ _ _ _ _ us hl => match us, hl with | [_], _ => rfl) fun f cdv A outer s H E hr => ⟨_,
    have hu64 := hr.units; (pss_cons (ps_set (i := 1) sc__law_wrong_number.nd rfl (Or.inl rfl) (pe_op op_addU pe_int (pe_c C__law_draw hr (by first | decide | omega) (pa_cons (pv 0) (pa_cons pe_int pa_nil)))))
 (pss_cons (ps_set (i := 2) sc__law_wrong_number.nd rfl (Or.inl rfl) (pe_lst (pa_cons (pe_tup (pa_cons pe_int (pa_cons (pv 1) pa_nil))) (pa_cons (pe_tup (pa_cons pe_int (pa_cons pe_int pa_nil))) (pa_cons (pe_tup (pa_cons pe_int (pa_cons pe_int pa_nil))) (pa_cons (pe_tup (pa_cons pe_int (pa_cons (pe_un un_neg pe_int) pa_nil))) (pa_cons (pe_tup (pa_cons (pv 1) (pa_cons (pv 1) pa_nil))) (pa_cons (pe_tup (pa_cons (pe_op op_mulU (pe_un un_neg pe_int) (pv 1)) (pa_cons (pe_op op_mulU pe_int (pv 1)) pa_nil))) (pa_cons (pe_tup (pa_cons pe_int (pa_cons (pe_op op_sub pe_int (pv 1)) pa_nil))) pa_nil)))))))))
 (pss_one (ps_ret (pe_ix ix_seq (pv 2) (pe_c C__law_draw hr (by first | decide | omega) (pa_cons (pv 0) (pa_cons pe_int pa_nil))) (fun _ _ => rfl)))))), fun μ ds post exc hl hP => ?_⟩
  obtain ⟨a, g, c, rfl, D0, hc, hp⟩ := hP
  walk_at "d0"
  walk_at "dx"
  refine ⟨a, g, c, 30, rfl, D0, by omega, by decide, by decide, fun μ1 v h0 h1 D1 B1 => ?_⟩
  have m1 : CMulB (-2) (2 + v) := ⟨64, 64, by decide, by omega, by decide⟩
  have m2 : CMulB 3 (2 + v) := ⟨64, 64, by decide, by omega, by decide⟩
  walk_at "dx"
  refine evx_lst ?_
  walk_at "dx"
  refine ⟨a, g, _, 7, rfl, D1, by omega, by decide, by decide, fun μ2 j hj0 hj1 D2 B2 => ?_⟩
  refine opx_ix (x := .lst _) rfl (d := ?d) ?hat ?_
  case hat => exact (pick_any (ds := [_, _, _, _, _, _, _]) hj0 hj1).choose_spec.2
  have hm := (pick_any (ds := [numD 0 (2 + v), numD 1 0, numD 0 0, numD 3 (-1), numD (2 + v) (2 + v), numD (-2 * (2 + v)) (3 * (2 + v)), numD 5 (0 - (2 + v))]) hj0 hj1).choose_spec.1
  refine hp _ _ ?_ (D2.mono (by omega)) (B1.trans B2)
  show NumOk (pick_any (ds := [numD 0 (2 + v), numD 1 0, numD 0 0, numD 3 (-1), numD (2 + v) (2 + v), numD (-2 * (2 + v)) (3 * (2 + v)), numD 5 (0 - (2 + v))]) hj0 hj1).choose
  revert hm
  generalize (pick_any (ds := [numD 0 (2 + v), numD 1 0, numD 0 0, numD 3 (-1), numD (2 + v) (2 + v), numD (-2 * (2 + v)) (3 * (2 + v)), numD 5 (0 - (2 + v))]) hj0 hj1).choose = d
  intro hm
  simp only [List.mem_cons, List.not_mem_nil, or_false] at hm
  rcases hm with rfl | rfl | rfl | rfl | rfl | rfl | rfl <;> exact ⟨_, _, rfl, ⟨by omega, by omega⟩, ⟨by omega, by omega⟩⟩
/-- are_signs: the letters ascend -/
def P_aresigns : PD := fun μ ds post _ => ∃ z : Str, ds = [.str z] ∧ z.length ≤ 1000 ∧ post μ (.bl (decide (okSigns z.cps.toList)))
theorem c_aresigns (h : Std K mg "_law_are_signs" s__law_are_signs) (n_range : mg "range" = none) (n_len : mg "len" = none) : Cal P w K mg base CX0 1 "_law_are_signs" s__law_are_signs ["_law_signs_here"] (spD K 1 P_aresigns) := by
  refine cal0 h sc__law_are_signs (fun _ _ _ _ _ _ us hl => match us, hl with | [_], _ => rfl) fun f cdv A outer s H E hr => ⟨_,
    have hu64 := hr.units; (pss_cons (ps_for PassesOwn.never rfl (pi_range1 rfl n_range (pa_cons (pe_callB call_len (by rfl) n_len (by decide +kernel) (pa_cons (pv 0) pa_nil)) pa_nil)) (pg_name (i := 1) sc__law_are_signs.nd rfl (Or.inl rfl))
 (pss_one (ps_if (PW.pt (pw_or (pt_cmpR op_notIn_sign (pe_ix ix_seq (pv 0) (pv 1) (fun _ _ => rfl)) pe_str rfl) (pw_or1 (PW.pt (pw_and (pt_cmpR op_gt (pv 1) pe_int (nomark _)) (pw_and1 (pt_cmpR op_le_str (pe_ix ix_seq (pv 0) (pv 1) (fun _ _ => rfl)) (pe_ix ix_seq (pv 0) (pe_op op_sub (pv 1) pe_int) (fun _ _ => rfl)) (nomark _))))))))
 (pss_one (ps_ret pe_bl))
 pss_nil)))
 (pss_one (ps_ret (pe_cmpR (op_neU hu64) (pv 0) pe_str (nomark _))))), fun μ ds post exc hl hP => ?_⟩
  obtain ⟨z, rfl, hz, hp⟩ := hP
  have zl : z.length = z.cps.toList.length := Array.length_toList.symm
  walk_at "d0"
  walk_at "dx"
  refine gs_for (itx_range1 ?_)
  walk_at "dx"
  refine cax_len (n := z.length) ⟨by omega, rfl⟩ ?_
  walk_at "dx"
  refine ⟨⟨by omega, by omega⟩, ?_⟩
  refine ⟨fun i μ' ρ' => μ' = μ ∧ ∃ v : Option D, ρ' = [some (.str z), v] ∧ (z.cps.toList.take i).Pairwise (· < ·) ∧ ∀ c ∈ z.cps.toList.take i, c ∈ letters,
    ⟨rfl, none, rfl, List.Pairwise.nil, (fun _ h => nomatch h)⟩, fun _ _ _ _ _ => True.intro, ?_, ?_⟩
  · rintro i d μ' ρ' hd ⟨rfl, v, rfl, p1, p2⟩
    obtain ⟨hi, rfl⟩ := rangeD_get hd
    have hi' : i < z.cps.toList.length := by omega
    have hc : z.cps.toList[i]? = some z.cps.toList[i] := List.getElem?_eq_getElem hi'
    generalize z.cps.toList[i] = c at hc
    have et : z.cps.toList.take (i + 1) = z.cps.toList.take i ++ [c] := take_succ' hc
    have hpt : z.cps.toList.take i ++ [c] <+: z.cps.toList := by rw [← et]; exact List.take_prefix _ _
    have hno : ¬ ((z.cps.toList.take i ++ [c]).Pairwise (· < ·) ∧ c ∈ letters) → post μ' (.bl false) := fun hn => by
      rw [decide_eq_false (fun ho : okSigns z.cps.toList => hn ⟨ho.1.sublist hpt.sublist, ho.2.1 c (hpt.subset (List.mem_append_right _ (List.mem_singleton.mpr rfl)))⟩)] at hp
      exact hp
    have hat : atI z.cps.toList (0 + i) = some c := by
      unfold atI ixN
      rw [if_pos (by omega), if_pos (by omega)]
      have : (0 + (i : Int)).toNat = i := by omega
      show z.cps.toList[(0 + (i : Int)).toNat]? = _
      rw [this, hc]
    walk_at "dx"
    refine opx_ixS (by omega) hat ?_
    walk_at "dx"
    refine opx_notInSign ?_
    walk_at "dx"
    refine ifN (fun hn => ?_) (fun hin => ?_)
    · refine ifY rfl ?_
      walk_at "dx"
      exact hno fun q => hn q.2
    walk_at "dx"
    refine ifD (fun h0 => ?_) (fun h0 => ?_)
    · obtain ⟨k, rfl⟩ : ∃ k, i = k + 1 := ⟨i - 1, by omega⟩
      have hk : k < z.cps.toList.length := by omega
      have hc2 : z.cps.toList[k]? = some z.cps.toList[k] := List.getElem?_eq_getElem hk
      generalize z.cps.toList[k] = l at hc2
      have hl := le_last (z.cps.toList.take (k + 1)) c p1
      rw [take_succ' hc2, lastS_snoc, ← take_succ' hc2] at hl
      have hat2 : atI z.cps.toList (0 + ((k + 1 : Nat) : Int) - 1) = some l := by
        unfold atI ixN
        rw [if_pos (by omega), if_pos (by omega)]
        have : (0 + ((k + 1 : Nat) : Int) - 1).toNat = k := by omega
        show z.cps.toList[(0 + ((k + 1 : Nat) : Int) - 1).toNat]? = _
        rw [this, hc2]
      walk_at "dx"
      refine opx_ixS (by omega) hat ?_
      walk_at "dx"
      refine opx_ixS (by omega) hat2 ?_
      refine opx_leS ?_
      refine ⟨_, rfl, ?_⟩
      show if (!decide ((sg l).cps.toList < (sg c).cps.toList)) = true then _ else _
      cases hb : (!decide ((sg l).cps.toList < (sg c).cps.toList)) with
      | true =>
        refine ifY rfl ?_
        walk_at "dx"
        exact hno fun q => hl.mp hb q.1
      | false =>
        refine ifNo rfl ?_
        walk_at "dx"
        have hpw : (z.cps.toList.take (k + 1) ++ [c]).Pairwise (· < ·) := Classical.byContradiction fun hn => by
          have := hl.mpr hn
          rw [hb] at this
          exact nomatch this
        rw [et]
        exact ⟨hpw, mem_snoc p2 hin⟩
    · have : i = 0 := by omega
      subst this
      walk_at "dz"
      rw [et]
      exact ⟨List.pairwise_singleton _ _, mem_snoc p2 hin⟩
  · rintro μ' ρ' ⟨rfl, v, rfl, p1, p2⟩
    have e1 : (rangeD 0 (z.length : Int).toNat).length = z.cps.toList.length := by rw [rangeD_len]; omega
    rw [e1, List.take_length] at p1 p2
    walk_at "dx"
    have e2 : decide (okSigns z.cps.toList) = !decide (z = Str.ofString "") := by
      by_cases hz0 : z = Str.ofString ""
      · rw [decide_eq_true hz0, decide_eq_false (fun ho : okSigns z.cps.toList => ho.2.2 (by rw [hz0]; rfl))]; rfl
      · rw [decide_eq_false hz0, decide_eq_true (show okSigns z.cps.toList from ⟨p1, p2, fun hn => hz0 (by
          obtain ⟨⟨l⟩⟩ := z
          have : l = [] := hn
          rw [this]; rfl)⟩)]; rfl
    rw [← e2]
    exact hp
end
def dueD : Option (Nat × D) → D
  | none => .non
  | some (0, d) => .tup [.str "signs", d]
  | some (1, d) => .tup [.str "number", d]
  | some (2, d) => .tup [.str "machine", d]
  | some (_, d) => .tup [.str "sign", d]
theorem dueM_eq (z : Str) (be ro en : List D) : dueM z be ro en = if ¬ okSigns z.cps.toList then some (0, .str z) else
    match (be ++ ro.map roadNum ++ en).find? numBad with
    | some d => some (1, d)
    | none => match ro.findSome? (roadBad z be.length) with
      | some e => some e
      | none => if be.length ≠ en.length then some (2, .lst en) else none := by
  unfold dueM
  rw [List.find?_append, List.find?_append]
  split
  · rfl
  · cases be.find? numBad with
    | some d => rfl
    | none =>
      cases (ro.map roadNum).find? numBad with
      | some d => rfl
      | none => cases en.find? numBad <;> rfl
def P_due : PD := fun μ ds post _ => ∃ (z : Str) (be ro en : List D), ds = [partsD z be ro en] ∧ (∀ d ∈ be, NumOk d) ∧ (∀ d ∈ ro, RoadOk d) ∧ (∀ d ∈ en, NumOk d) ∧ z.length ≤ 1000 ∧ be.length ≤ 1000 ∧ ro.length ≤ 1000 ∧ en.length ≤ 1000 ∧ post μ (dueD (dueM z be ro en))
section
variable {P : Program} {w : World} {K : PySem.W.Frag} {mg : Str → Option Value} {base : Heap}
theorem c_due (h : Std K mg "_law_due" s__law_due) (n_len : mg "len" = none) (C__law_are_signs : Cal P w K mg base CX0 1 "_law_are_signs" s__law_are_signs ["_law_signs_here"] (spD K 1 P_aresigns)) (C__law_gcd : Cal P w K mg base CX0 1 "_law_gcd" s__law_gcd ["_law_one", "_law_other"] (spD K 2 P_gcd)) : Cal P w K mg base CX0 2 "_law_due" s__law_due ["_law_parts"] (spD K 1 P_due) := by
  refine cal0 h sc__law_due (fun _ _ _ _ _ _ us hl => match us, hl with | [_], _ => rfl) fun f cdv A outer s H E hr => ⟨_,
    have hu64 := hr.units; (pss_cons (ps_asg (pv 0) (pg_lst rfl (pgs_cons (pg_name (i := 1) sc__law_due.nd rfl (Or.inl rfl)) (pgs_cons (pg_name (i := 2) sc__law_due.nd rfl (Or.inl rfl)) (pgs_cons (pg_name (i := 3) sc__law_due.nd rfl (Or.inl rfl)) (pgs_cons (pg_name (i := 4) sc__law_due.nd rfl (Or.inl rfl)) pgs_nil))))))
 (pss_cons (ps_if (pt_not (pt_val (pe_c C__law_are_signs hr (by first | decide | omega) (pa_cons (pv 1) pa_nil))))
 (pss_one (ps_ret (pe_tup (pa_cons pe_str (pa_cons (pv 1) pa_nil)))))
 pss_nil)
 (pss_cons (ps_for PassesOwn.never rfl (pi_list (pe_op op_addU (pe_op op_addU (pv 2) (pe_lc (own := [("_law_road", 5)]) rfl sc__law_due.nd (pi_list (pv 3)) (blkOk_by (own := [("_law_road", 5)]) (N := ["_law_parts", "_law_signs_here", "_law_begin", "_law_roads", "_law_end", "_law_road", "_law_number_here"]) (sc := defScope s__law_due) (by decide +kernel)) (fun _ _ _ _ _ => pg_via (pg_name (i := 5) sc__law_due.nd rfl (Or.inl rfl)) (by (try dsimp only [Cx.blk, Cx.nox, Cx.tr]) <;> exact rfl)) (fun _ _ _ _ _ => pts_via pts_nil (by (try dsimp only [Cx.blk, Cx.nox, Cx.tr]) <;> exact rfl)) (fun _ _ _ _ _ => pe_via (pe_ix ix_seq (pv 5) pe_int (fun _ _ => rfl)) (by (try dsimp only [Cx.blk, Cx.nox, Cx.tr]) <;> exact rfl)))) (pv 4))) (pg_name (i := 6) sc__law_due.nd rfl (Or.inl rfl))
 (pss_one (ps_if (PW.pt (pw_or (pt_cmpR op_lt (pe_ix ix_seq (pv 6) pe_int (fun _ _ => rfl)) pe_int (nomark _)) (pw_or1 (pt_cmpR (op_neU hu64) (pe_c C__law_gcd hr (by first | decide | omega) (pa_cons (pe_ix ix_seq (pv 6) pe_int (fun _ _ => rfl)) (pa_cons (pe_ix ix_seq (pv 6) pe_int (fun _ _ => rfl)) pa_nil))) pe_int (nomark _)))))
 (pss_one (ps_ret (pe_tup (pa_cons pe_str (pa_cons (pv 6) pa_nil)))))
 pss_nil)))
 (pss_cons (ps_for PassesOwn.never rfl (pi_list (pv 3)) (pg_name (i := 5) sc__law_due.nd rfl (Or.inl rfl))
 (pss_cons (ps_if (PW.pt (pw_or (pt_cmpR op_lt (pe_ix ix_seq (pv 5) pe_int (fun _ _ => rfl)) pe_int (nomark _)) (pw_or1 (pt_cmpR op_ge (pe_ix ix_seq (pv 5) pe_int (fun _ _ => rfl)) (pe_callB call_len (by rfl) n_len (by decide +kernel) (pa_cons (pv 2) pa_nil)) (nomark _)))))
 (pss_one (ps_ret (pe_tup (pa_cons pe_str (pa_cons (pv 5) pa_nil)))))
 pss_nil)
 (pss_cons (ps_if (PW.pt (pw_or (pt_cmpR (op_neU hu64) (pe_callB call_len (by rfl) n_len (by decide +kernel) (pa_cons (pe_ix ix_seq (pv 5) pe_int (fun _ _ => rfl)) pa_nil)) pe_int (nomark _)) (pw_or1 (pt_cmpR op_notIn_sign (pe_ix ix_seq (pv 5) pe_int (fun _ _ => rfl)) (pv 1) rfl))))
 (pss_one (ps_ret (pe_tup (pa_cons pe_str (pa_cons (pe_ix ix_seq (pv 5) pe_int (fun _ _ => rfl)) pa_nil)))))
 pss_nil)
 (pss_one (ps_if (PW.pt (pw_or (pt_cmpR op_lt (pe_ix ix_seq (pv 5) pe_int (fun _ _ => rfl)) pe_int (nomark _)) (pw_or1 (pt_cmpR op_ge (pe_ix ix_seq (pv 5) pe_int (fun _ _ => rfl)) (pe_callB call_len (by rfl) n_len (by decide +kernel) (pa_cons (pv 2) pa_nil)) (nomark _)))))
 (pss_one (ps_ret (pe_tup (pa_cons pe_str (pa_cons (pv 5) pa_nil)))))
 pss_nil)))))
 (pss_cons (ps_if (pt_cmpR (op_neU hu64) (pe_callB call_len (by rfl) n_len (by decide +kernel) (pa_cons (pv 2) pa_nil)) (pe_callB call_len (by rfl) n_len (by decide +kernel) (pa_cons (pv 4) pa_nil)) (nomark _))
 (pss_one (ps_ret (pe_tup (pa_cons pe_str (pa_cons (pv 4) pa_nil)))))
 pss_nil)
 (pss_one (ps_ret pe_non))))))), fun μ ds post exc hl hP => ?_⟩
  obtain ⟨z, be, ro, en, rfl, hbe, hro, hen, lz, lb, lr, le, hp⟩ := hP
  rw [dueM_eq] at hp
  walk_at "d0"
  walk_at "dx"
  refine tgx_lst isL_lst rfl ?_
  walk_at "dx"
  refine ⟨z, rfl, lz, ?_⟩
  by_cases hs : okSigns z.cps.toList
  rotate_left
  · rw [if_pos hs] at hp
    rw [decide_eq_false hs]
    walk_at "dz"
    exact hp
  rw [if_neg (fun hn => hn hs)] at hp
  rw [decide_eq_true hs]
  walk_at "dz"
  refine gs_for (itx_list ?_)
  walk_at "dx"
  refine evx_lcP (itx_list ?_)
  walk_at "dx"
  refine ⟨_, _, isL_lst, ⟨by omega, fun _ _ => True.intro⟩, fun _ => true, roadNum, ?_, ?_⟩
  · intro d hd μ' hμ
    obtain ⟨s, b, y, x1, x2, rfl, _⟩ := hro d hd
    refine tcx_name (by decide) ?_
    refine evb_yes ⟨rfl, rfl, fun _ => ?_⟩
    walk_at "dx"
    first | exact ⟨rfl, rfl⟩ | exact rfl
  rw [List.filter_eq_self.mpr (fun _ _ => rfl)]
  refine opx_r (opx_r (opx_l (opx_cat real_lst real_lst (by rw [List.length_map]; omega) ?_)))
  walk_at "dx"
  refine opx_r (opx_r (opx_l (opx_cat real_lst real_lst (by rw [List.length_append, List.length_map]; omega) ?_)))
  refine ⟨_, _, isL_lst, ?_⟩
  have hL : ∀ d ∈ be ++ ro.map roadNum ++ en, NumOk d := fun d hd => by
    rcases List.mem_append.mp hd with hd | hd
    · rcases List.mem_append.mp hd with hd | hd
      · exact hbe d hd
      · obtain ⟨e, he, rfl⟩ := List.mem_map.mp hd
        obtain ⟨s, b, y, x1, x2, rfl, _, _, _, h4, h5⟩ := hro e he
        exact ⟨x1, x2, rfl, h4, h5⟩
    · exact hen d hd
  generalize be ++ ro.map roadNum ++ en = L at hL hp
  refine ⟨fun i μ' ρ' => μ' = μ ∧ (∀ e ∈ L.take i, numBad e = false) ∧ ∃ u5 u6 : Option D, ρ' = [some (partsD z be ro en), some (.str z), some (.lst be), some (.lst ro), some (.lst en), u5, u6], ⟨rfl, (fun _ h => nomatch h), none, none, rfl⟩, fun _ _ _ _ _ => True.intro, ?_, ?_⟩
  · rintro i d μ' ρ' hd ⟨rfl, hg, u5, u6, rfl⟩
    obtain ⟨a, b, rfl, _, _⟩ := hL d (List.mem_of_getElem? hd)
    have hbad : numBad (numD a b) = true → post μ' (.tup [.str "number", numD a b]) := fun q => by
      rw [find_first hd hg q] at hp
      exact hp
    unfold numD at *
    walk_at "dx"
    refine ifD (fun h1 => ?_) (fun h1 => ?_)
    · walk_at "dz"
      refine hbad ?_
      show (!(decide (1 ≤ b) && _)) = true
      rw [decide_eq_false (by omega)]; rfl
    walk_at "dx"
    refine ⟨a, b, rfl, ?_⟩
    walk_at "dx"
    refine ifN (fun h2 => ?_) (fun h2 => ?_)
    · walk_at "dx"
      refine hbad ?_
      show (!(decide (1 ≤ b) && decide _)) = true
      rw [decide_eq_false h2, Bool.and_false]; rfl
    · walk_at "dx"
      rw [take_succ' hd]
      refine ⟨mem_snoc hg ?_, _, _, rfl⟩
      show (!(decide (1 ≤ b) && decide _)) = false
      rw [decide_eq_true h2, decide_eq_true (show 1 ≤ b by omega)]; rfl
  rintro μ1 ρ1 ⟨rfl, g1, u5, u6, rfl⟩
  rw [List.take_length] at g1
  rw [find_none g1] at hp
  dsimp only at hp
  walk_at "dx"
  refine gs_for (itx_list ?_)
  walk_at "dx"
  refine ⟨_, _, isL_lst, ?_⟩
  refine ⟨fun i μ' ρ' => μ' = μ1 ∧ (∀ e ∈ ro.take i, roadBad z be.length e = none) ∧ ∃ u5 : Option D, ρ' = [some (partsD z be ro en), some (.str z), some (.lst be), some (.lst ro), some (.lst en), u5, u6], ⟨rfl, (fun _ h => nomatch h), _, rfl⟩, fun _ _ _ _ _ => True.intro, ?_, ?_⟩
  · rintro i d μ' ρ' hd ⟨rfl, hg, u5, rfl⟩
    obtain ⟨s, b, y, x1, x2, rfl, _, _, hy, _, _⟩ := hro d (List.mem_of_getElem? hd)
    have hbad : ∀ e, roadBad z be.length (.tup [.int s, .str y, .int b, numD x1 x2]) = some e → post μ' (dueD (some e)) := fun e he => by
      rw [some_first hd hg he] at hp
      exact hp
    have hnone : ¬ (s < 0 ∨ (be.length : Int) ≤ s) → okSign y z = true → ¬ (b < 0 ∨ (be.length : Int) ≤ b) → roadBad z be.length (.tup [.int s, .str y, .int b, numD x1 x2]) = none := fun q1 q2 q3 => by
      unfold roadBad
      dsimp only
      rw [if_neg q1, if_neg (by rw [q2]; decide), if_neg q3]
    unfold roadBad at hbad
    dsimp only at hbad
    have yl : y.length = y.cps.toList.length := Array.length_toList.symm
    walk_at "dx"
    refine ifD (fun h0 => ?_) (fun h0 => ?_)
    · walk_at "dz"
      exact hbad _ (if_pos (.inl h0))
    walk_at "dx"
    refine ifD (fun h1 => ?_) (fun h1 => ?_)
    · walk_at "dz"
      exact hbad _ (if_pos (.inr h1))
    rw [if_neg (by omega)] at hbad
    walk_at "dx"
    refine cax_len (n := y.length) ⟨by have := hy.1; omega, rfl⟩ ?_
    walk_at "dx"
    refine ifN (fun hn => ?_) (fun h1' => ?_)
    · walk_at "dz"
      refine hbad _ (if_pos ?_)
      unfold okSign
      split
      · next c hc => rw [hc] at yl; exact absurd (by rw [yl]; rfl) hn
      · rfl
    obtain ⟨c, rfl⟩ : ∃ c, y = sg c := by
      obtain ⟨⟨l⟩⟩ := y
      have hl1 : l.length = 1 := by
        have : (l.length : Int) = 1 := h1'
        omega
      obtain ⟨c, rfl⟩ := List.length_eq_one_iff.mp hl1
      exact ⟨c, rfl⟩
    walk_at "dx"
    refine opx_notInSign ?_
    walk_at "dx"
    refine ifN (fun hn => ?_) (fun hin => ?_)
    · walk_at "dz"
      exact hbad _ (if_pos (decide_eq_false hn))
    have hok : okSign (sg c) z = true := decide_eq_true hin
    rw [if_neg (by rw [hok]; decide)] at hbad
    walk_at "dx"
    refine ifD (fun h2 => ?_) (fun h2 => ?_)
    · walk_at "dz"
      exact hbad _ (if_pos (.inl h2))
    walk_at "dx"
    refine ifD (fun h3 => ?_) (fun h3 => ?_)
    · walk_at "dz"
      exact hbad _ (if_pos (.inr h3))
    walk_at "dz"
    rw [take_succ' hd]
    exact ⟨mem_snoc hg (hnone (by omega) hok (by omega)), _, rfl⟩
  rintro μ2 ρ2 ⟨rfl, g2, u5, rfl⟩
  rw [List.take_length] at g2
  rw [some_none g2] at hp
  dsimp only at hp
  walk_at "dx"
  refine ifN (fun hn => ?_) (fun he => ?_)
  · rw [if_pos (by omega)] at hp
    walk_at "dx"
    exact hp
  · rw [if_neg (by omega)] at hp
    walk_at "dx"
    exact hp
end
/-- the signs that stand in what is drawn -/
def known : List Nat := letters ++ (Str.ofString "A -Z0{`_[").cps.toList
theorem known_lt : ∀ c ∈ known, c < 1114112 := by decide +kernel
def Lay (z : Str) : Prop := ∀ c ∈ z.cps.toList, c ∈ known
theorem Lay.can {z : Str} (h : Lay z) : (PyData.str z).canLay0 = true := by
  show z.cps.all (fun x => decide (x < 1114112)) = true
  rw [← Array.all_toList]
  exact List.all_eq_true.mpr fun c hc => decide_eq_true (known_lt c (h c hc))
theorem cps_append (a b : Str) : (a ++ b).cps.toList = a.cps.toList ++ b.cps.toList := by
  show (a.cps ++ b.cps).toList = _
  rw [Array.toList_append]
theorem len_append (a b : Str) : (a ++ b).length = a.length + b.length := by
  show (a.cps ++ b.cps).size = _
  rw [Array.size_append]; rfl
theorem Lay.append {a b : Str} (ha : Lay a) (hb : Lay b) : Lay (a ++ b) := fun c hc => by
  rw [cps_append] at hc
  rcases List.mem_append.mp hc with hc | hc
  · exact ha c hc
  · exact hb c hc
theorem cut_cps (z : Str) (lo hi : Option Int) : (cutS z lo hi).cps.toList = (z.cps.toList.drop (HT.sIx z.length 0 lo)).take (HT.sIx z.length z.length hi - HT.sIx z.length 0 lo) := List.toList_toArray ..
theorem Lay.cut {z : Str} (h : Lay z) (lo hi : Option Int) : Lay (cutS z lo hi) := fun c hc => by
  rw [cut_cps] at hc
  exact h c (List.mem_of_mem_drop (List.mem_of_mem_take hc))
theorem Lay.rev {z : Str} (h : Lay z) : Lay (revT z) := fun c hc => h c (revT_mem z c hc)
theorem lay_sg {c : Nat} (h : c ∈ known) : Lay ⟨#[c]⟩ := fun e he => by
  have : e ∈ [c] := he
  rw [List.mem_singleton] at this
  rw [this]; exact h
theorem cut_lens (z : Str) {j : Int} (h0 : 0 ≤ j) (h1 : j ≤ z.length) : (cutS z none (some j)).length + (cutS z (some j) none).length = z.length := by
  have e1 : ∀ lo hi, (cutS z lo hi).length = (cutS z lo hi).cps.toList.length := fun lo hi => Array.length_toList.symm
  have zl : z.cps.toList.length = z.length := Array.length_toList
  rw [e1, e1, cut_cps, cut_cps, List.length_take, List.length_take, List.length_drop, List.length_drop, zl]
  obtain ⟨n, rfl⟩ := Int.eq_ofNat_of_zero_le h0
  have hn : n ≤ z.length := by omega
  simp only [HT.sIx_none, HT.sIx_nat]
  omega
def P_wsigns : PD := fun μ ds post _ => ∃ (a g : Addr) (c : Int) (z : Str), ds = [.at a, .str z] ∧ Deck a g c μ ∧ c ≤ 900000 ∧ 1 ≤ z.length ∧ z.length ≤ 1000 ∧ Lay z ∧
  ∀ μ' z', z'.length ≤ z.length + 1 → Lay z' → Deck a g (c + 3) μ' → But a g μ μ' → post μ' (.str z')
section
variable {P : Program} {w : World} {K : PySem.W.Frag} {mg : Str → Option Value} {base : Heap}
theorem c_wsigns (h : Std K mg "_law_wrong_signs" s__law_wrong_signs) (n_len : mg "len" = none) (C__law_draw : Cal P w K mg base CX0 1 "_law_draw" s__law_draw ["_law_deck_here", "_law_limit"] (spD K 2 P_draw)) : Cal P w K mg base CX0 2 "_law_wrong_signs" s__law_wrong_signs ["_law_deck_here", "_law_signs_here"] (spD K 2 P_wsigns) := by
  refine cal0 h sc__law_wrong_signs (fun _ _ _ _ _ _ us hl => match us, hl with | [_, _], _ => rfl) fun f cdv A outer s H E hr => ⟨_,
    have hu64 := hr.units; (pss_cons (ps_set (i := 2) sc__law_wrong_signs.nd rfl (Or.inl rfl) (pe_c C__law_draw hr (by first | decide | omega) (pa_cons (pv 0) (pa_cons (pe_op op_addU (pe_callB call_len (by rfl) n_len (by decide +kernel) (pa_cons (pv 1) pa_nil)) pe_int) pa_nil))))
 (pss_cons (ps_set (i := 3) sc__law_wrong_signs.nd rfl (Or.inl rfl) (pe_c C__law_draw hr (by first | decide | omega) (pa_cons (pv 0) (pa_cons pe_int pa_nil))))
 (pss_cons (ps_if (pt_cmpR (op_eqU hu64) (pv 3) pe_int (nomark _))
 (pss_one (ps_ret pe_str))
 pss_nil)
 (pss_cons (ps_if (PW.pt (pw_and (pt_cmpR (op_eqU hu64) (pv 3) pe_int (nomark _)) (pw_and1 (pt_cmpR op_gt (pe_callB call_len (by rfl) n_len (by decide +kernel) (pa_cons (pv 1) pa_nil)) pe_int (nomark _)))))
 (pss_one (ps_ret (pe_revT (pv 1))))
 pss_nil)
 (pss_cons (ps_if (pt_cmpR (op_eqU hu64) (pv 3) pe_int (nomark _))
 (pss_one (ps_ret (pe_op op_addU (pv 1) (pe_ix ix_seq (pv 1) (pe_un un_neg pe_int) (fun _ _ => rfl)))))
 pss_nil)
 (pss_cons (ps_set (i := 4) sc__law_wrong_signs.nd rfl (Or.inl rfl) (pe_ix ix_seq pe_str (pe_c C__law_draw hr (by first | decide | omega) (pa_cons (pv 0) (pa_cons pe_int pa_nil))) (fun _ _ => rfl)))
 (pss_one (ps_ret (pe_op op_addU (pe_op op_addU (pe_slice sl_str (pv 1) po_none (po_some (pv 2))) (pv 4)) (pe_slice sl_str (pv 1) (po_some (pv 2)) po_none)))))))))), fun μ ds post exc hl hP => ?_⟩
  obtain ⟨a, g, c, z, rfl, D0, hc, hz1, hz2, hz, hp⟩ := hP
  have zl : z.cps.toList.length = z.length := Array.length_toList
  walk_at "d0"
  walk_at "dx"
  refine cax_len (n := z.length) ⟨by omega, rfl⟩ ?_
  walk_at "dx"
  refine ⟨a, g, c, _, rfl, D0, by omega, by omega, small_lt (by omega) (by omega), fun μ1 j hj0 hj1 D1 B1 => ?_⟩
  walk_at "dx"
  refine ⟨a, g, _, 5, rfl, D1, by omega, by decide, by decide, fun μ2 kd _ _ D2 B2 => ?_⟩
  have D3 : Deck a g (c + 3) μ2 := D2.mono (by omega)
  have B := B1.trans B2
  walk_at "dx"
  refine ifD (fun _ => ?_) (fun _ => ?_)
  · walk_at "dx"
    exact hp _ _ (Nat.zero_le _) (fun c hc => nomatch hc) D3 B
  have hodd : ∀ c ∈ (Str.ofString "A -Z0{`_[").cps.toList, c ∈ known := fun c hc => List.mem_append_right _ hc
  obtain ⟨lc, hlc, hlast⟩ : ∃ lc, lc ∈ z.cps.toList ∧ atI z.cps.toList (-1) = some lc := by
    have hk : z.cps.toList.length - 1 < z.cps.toList.length := by omega
    refine ⟨z.cps.toList[z.cps.toList.length - 1], List.getElem_mem hk, ?_⟩
    unfold atI ixN
    rw [if_neg (by omega), if_pos (by omega)]
    have : (-1 + (z.cps.toList.length : Int)).toNat = z.cps.toList.length - 1 := by omega
    show z.cps.toList[(-1 + (z.cps.toList.length : Int)).toNat]? = _
    rw [this, List.getElem?_eq_getElem hk]
  walk_at "dx"
  refine ifD (fun _ => ?_) (fun _ => ?_)
  · walk_at "dx"
    refine cax_len (n := z.length) ⟨by omega, rfl⟩ ?_
    walk_at "dx"
    refine ifD (fun _ => ?_) (fun _ => ?_)
    · walk_at "dx"
      refine evx_revT ?_
      walk_at "dx"
      exact ⟨by omega, hp _ _ (Nat.le_succ_of_le (revT_len z)) hz.rev D3 B⟩
    walk_at "dx"
    refine ifD (fun _ => ?_) (fun _ => ?_)
    · walk_at "dx"
      refine opx_ixS (by omega) hlast ?_
      refine opx_r (opx_l (opx_addS (by rw [show (⟨#[lc]⟩ : Str).length = 1 from rfl]; omega) ?_))
      walk_at "dx"
      exact hp _ _ (by rw [len_append]; exact Nat.le_refl _) (hz.append (lay_sg (hz lc hlc))) D3 B
    walk_at "dx"
    refine ⟨a, g, _, 9, rfl, D2, by omega, by decide, by decide, fun μ3 x hx0 hx1 D4 B4 => ?_⟩
    obtain ⟨ch, hch, hat⟩ := pick_anyA (ds := (Str.ofString "A -Z0{`_[").cps.toList) hx0 hx1
    refine opx_ixS (Nat.le_of_ble_eq_true rfl) hat ?_
    walk_at "dx"
    refine slx_S (by omega) ?_
    walk_at "dx"
    have hcl := cut_lens z hj0 (by omega)
    have h1 : (⟨#[ch]⟩ : Str).length = 1 := rfl
    refine opx_r (opx_l (opx_addS (by rw [h1]; omega) ?_))
    walk_at "dx"
    refine slx_S (by omega) ?_
    refine opx_r (opx_l (opx_addS (by rw [len_append, h1]; omega) ?_))
    walk_at "dx"
    exact hp _ _ (by rw [len_append, len_append, h1]; omega) (((hz.cut _ _).append (lay_sg (hodd ch hch))).append (hz.cut _ _)) (D4.mono (by omega)) (B.trans B4)
  · walk_at "dz"
    refine ifD (fun _ => ?_) (fun _ => ?_)
    · walk_at "dx"
      refine opx_ixS (by omega) hlast ?_
      refine opx_r (opx_l (opx_addS (by rw [show (⟨#[lc]⟩ : Str).length = 1 from rfl]; omega) ?_))
      walk_at "dx"
      exact hp _ _ (by rw [len_append]; exact Nat.le_refl _) (hz.append (lay_sg (hz lc hlc))) D3 B
    walk_at "dx"
    refine ⟨a, g, _, 9, rfl, D2, by omega, by decide, by decide, fun μ3 x hx0 hx1 D4 B4 => ?_⟩
    obtain ⟨ch, hch, hat⟩ := pick_anyA (ds := (Str.ofString "A -Z0{`_[").cps.toList) hx0 hx1
    refine opx_ixS (Nat.le_of_ble_eq_true rfl) hat ?_
    walk_at "dx"
    refine slx_S (by omega) ?_
    walk_at "dx"
    have hcl := cut_lens z hj0 (by omega)
    have h1 : (⟨#[ch]⟩ : Str).length = 1 := rfl
    refine opx_r (opx_l (opx_addS (by rw [h1]; omega) ?_))
    walk_at "dx"
    refine slx_S (by omega) ?_
    refine opx_r (opx_l (opx_addS (by rw [len_append, h1]; omega) ?_))
    walk_at "dx"
    exact hp _ _ (by rw [len_append, len_append, h1]; omega) (((hz.cut _ _).append (lay_sg (hodd ch hch))).append (hz.cut _ _)) (D4.mono (by omega)) (B.trans B4)
end
theorem up_known : ∀ c ∈ known, (Txt.upper ⟨#[c]⟩).length ≤ 3 ∧ (PyData.str (Txt.upper ⟨#[c]⟩)).canLay0 = true := by decide +kernel
theorem len_sub : ∀ (l m : List Nat), l.Nodup → (∀ c ∈ l, c ∈ m) → l.length ≤ m.length
  | [], m, _, _ => Nat.zero_le _
  | c :: l, m, hn, hs => by
    have hc : c ∈ m := hs c (List.mem_cons_self ..)
    have h1 := List.nodup_cons.mp hn
    have ih := len_sub l (m.erase c) h1.2 fun e he => (List.mem_erase_of_ne (fun z : e = c => h1.1 (by rw [← z]; exact he))).mpr (hs e (List.mem_cons_of_mem _ he))
    rw [List.length_erase_of_mem hc] at ih
    have : 0 < m.length := List.length_pos_of_mem hc
    rw [List.length_cons]
    omega
theorem left_pos {z : Str} (h : z.length ≤ 20) : 0 < (letters.filter fun c => !decide (c ∈ z.cps.toList)).length := by
  rcases Nat.eq_zero_or_pos (letters.filter fun c => !decide (c ∈ z.cps.toList)).length with h0 | h0
  · exfalso
    have e := List.eq_nil_of_length_eq_zero h0
    rw [List.filter_eq_nil_iff] at e
    have := len_sub letters z.cps.toList letters_nd fun c hc => by
      have := e c hc
      simpa using this
    rw [letters_len, Array.length_toList] at this
    have hz : z.cps.size ≤ 20 := h
    omega
  · exact h0
def P_wsign : PD := fun μ ds post _ => ∃ (a g : Addr) (c : Int) (z : Str), ds = [.at a, .str z] ∧ Deck a g c μ ∧ c ≤ 900000 ∧ 1 ≤ z.length ∧ z.length ≤ 20 ∧ Lay z ∧
  ∀ μ' z', TxtOk z' → Deck a g (c + 3) μ' → Keep a g μ μ' → post μ' (.str z')
section
variable {P : Program} {w : World} {K : PySem.W.Frag} {mg : Str → Option Value} {base : Heap}
theorem c_wsign (h : Std K mg "_law_wrong_sign" s__law_wrong_sign) (n_len : mg "len" = none) (C__law_draw : Cal P w K mg base CX0 1 "_law_draw" s__law_draw ["_law_deck_here", "_law_limit"] (spD K 2 P_draw)) : Cal P w K mg base CX0 2 "_law_wrong_sign" s__law_wrong_sign ["_law_deck_here", "_law_signs_here"] (spD K 2 P_wsign) := by
  refine cal0 h sc__law_wrong_sign (fun _ _ _ _ _ _ us hl => match us, hl with | [_, _], _ => rfl) fun f cdv A outer s H E hr => ⟨_,
    have hu64 := hr.units; (pss_cons (ps_setLc (i := 2) (own := [("_law_letter", 5)]) rfl sc__law_wrong_sign.nd rfl rfl (sw_true rfl rfl rfl (by decide +kernel)) (pi_str pe_str) (blkOk_by (own := [("_law_letter", 5)]) (N := ["_law_deck_here", "_law_signs_here", "_law_left", "_law_other", "_law_one", "_law_letter"]) (sc := defScope s__law_wrong_sign) (by decide +kernel)) (fun _ _ _ _ _ => pg_via (pg_name (i := 5) sc__law_wrong_sign.nd rfl (Or.inl rfl)) (by (try dsimp only [Cx.blk, Cx.nox, Cx.tr]) <;> exact rfl)) (fun _ _ _ _ _ => pts_via (pts_one (pt_cmpR op_notIn_sign (pv 5) (pv 1) rfl)) (by (try dsimp only [Cx.blk, Cx.nox, Cx.tr]) <;> exact rfl)) (fun _ _ _ _ _ => pe_via (pv 5) (by (try dsimp only [Cx.blk, Cx.nox, Cx.tr]) <;> exact rfl)))
 (pss_cons (ps_set (i := 3) sc__law_wrong_sign.nd rfl (Or.inl rfl) (pe_ix ix_seq (pv 2) (pe_c C__law_draw hr (by first | decide | omega) (pa_cons (pv 0) (pa_cons (pe_callB call_len (by rfl) n_len (by decide +kernel) (pa_cons (pv 2) pa_nil)) pa_nil))) (fun _ _ => rfl)))
 (pss_cons (ps_set (i := 4) sc__law_wrong_sign.nd rfl (Or.inl rfl) (pe_ix ix_seq (pv 1) (pe_c C__law_draw hr (by first | decide | omega) (pa_cons (pv 0) (pa_cons (pe_callB call_len (by rfl) n_len (by decide +kernel) (pa_cons (pv 1) pa_nil)) pa_nil))) (fun _ _ => rfl)))
 (pss_one (ps_ret (pe_ix ix_seq (pe_lst (pa_cons pe_str (pa_cons (pv 3) (pa_cons (pe_op op_addU (pv 4) (pe_ix ix_seq (pv 1) (pe_un un_neg pe_int) (fun _ _ => rfl))) (pa_cons (pe_upper (pv 4)) (pa_cons (pe_op op_addU (pv 4) (pv 3)) (pa_cons pe_str (pa_cons pe_str (pa_cons pe_str pa_nil))))))))) (pe_c C__law_draw hr (by first | decide | omega) (pa_cons (pv 0) (pa_cons pe_int pa_nil))) (fun _ _ => rfl))))))), fun μ ds post exc hl hP => ?_⟩
  obtain ⟨a, g, c, z, rfl, D0, hc, hz1, hz2, hz, hp⟩ := hP
  walk_at "d0"
  walk_at "dx"
  refine evx_lcP (itx_str ?_)
  walk_at "dx"
  refine ⟨⟨Nat.le_of_ble_eq_true rfl, fun _ _ => True.intro⟩, fun d => match d with | .str ⟨cs⟩ => !decide (cs.toList.headD 0 ∈ z.cps.toList) | _ => false, id, ?_, ?_⟩
  · intro d hd μ' hμ
    rw [signsD_eq] at hd
    obtain ⟨ch, _, rfl⟩ := List.mem_map.mp hd
    refine tcx_name (by decide) ?_
    walk_at "dx"
    refine opx_notInSign ?_
    walk_at "dx"
    intro _
    walk_at "dx"
    first | exact ⟨rfl, rfl⟩ | exact rfl
  have e0 : ∀ p : D → Bool, (∀ c, p (sgD c) = !decide (c ∈ z.cps.toList)) → ((letters.map sgD).filter p).map id = (letters.filter fun c => !decide (c ∈ z.cps.toList)).map sgD := fun p hp => by
    rw [List.map_id, List.filter_map]
    congr 1
    exact List.filter_congr fun c _ => hp c
  rw [signsD_eq]
  rw [show (Str.ofString "abcdefghijklmnopqrstuvwxyz").cps.toList = letters from rfl]
  rw [e0 _ (fun c => rfl)]
  have hpos := left_pos hz2
  have hle : (letters.filter fun c => !decide (c ∈ z.cps.toList)).length ≤ 26 := by
    have := List.length_filter_le (fun c => !decide (c ∈ z.cps.toList)) letters
    rw [letters_len] at this; exact this
  have hsub : ∀ c ∈ (letters.filter fun c => !decide (c ∈ z.cps.toList)), c ∈ letters := fun c hc => (List.mem_filter.mp hc).1
  generalize (letters.filter fun c => !decide (c ∈ z.cps.toList)) = left at hpos hle hsub
  have zl : z.cps.toList.length = z.length := Array.length_toList
  obtain ⟨lc, hlc, hlast⟩ : ∃ lc, lc ∈ z.cps.toList ∧ atI z.cps.toList (-1) = some lc := by
    have hk : z.cps.toList.length - 1 < z.cps.toList.length := by omega
    refine ⟨z.cps.toList[z.cps.toList.length - 1], List.getElem_mem hk, ?_⟩
    unfold atI ixN
    rw [if_neg (by omega), if_pos (by omega)]
    have : (-1 + (z.cps.toList.length : Int)).toNat = z.cps.toList.length - 1 := by omega
    show z.cps.toList[(-1 + (z.cps.toList.length : Int)).toNat]? = _
    rw [this, List.getElem?_eq_getElem hk]
  walk_at "dx"
  refine ⟨a, g, c, _, rfl, D0, by omega, by rw [List.length_map]; omega, small_lt (by omega) (by rw [List.length_map]; omega), fun μ1 j hj0 hj1 D1 B1 => ?_⟩
  obtain ⟨od, hod, hat⟩ := pick_anyA (ds := left.map sgD) hj0 hj1
  obtain ⟨oc, hoc, rfl⟩ := List.mem_map.mp hod
  refine opx_ix (x := .lst _) rfl hat ?_
  walk_at "dx"
  refine cax_len (n := z.length) ⟨by omega, rfl⟩ ?_
  walk_at "dx"
  refine ⟨a, g, _, _, rfl, D1, by omega, by omega, small_lt (by omega) (by omega), fun μ2 k hk0 hk1 D2 B2 => ?_⟩
  obtain ⟨nc, hnc, hat2⟩ := pick_anyA (ds := z.cps.toList) hk0 (by rw [zl]; exact hk1)
  refine opx_ixS (by omega) hat2 ?_
  walk_at "dx"
  refine evx_lst ?_
  walk_at "dx"
  refine opx_ixS (by omega) hlast ?_
  refine opx_r (opx_l (opx_addS (by show 1 + 1 ≤ 1000000; decide) ?_))
  walk_at "dx"
  refine evx_upper ?_
  walk_at "dx"
  refine opx_r (opx_l (opx_addS (by show 1 + 1 ≤ 1000000; decide) ?_))
  walk_at "dx"
  refine ⟨a, g, _, 8, rfl, D2, by omega, by decide, by decide, fun μ3 x hx0 hx1 D3 B3 => ?_⟩
  have hoc' : oc ∈ known := List.mem_append_left _ (hsub oc hoc)
  have one : ∀ c ∈ known, TxtOk ⟨#[c]⟩ := fun c hc => ⟨by show 1 ≤ 20; decide, (lay_sg hc).can⟩
  have two : ∀ c ∈ known, ∀ d ∈ known, TxtOk ((⟨#[c]⟩ : Str) ++ ⟨#[d]⟩) := fun c hc d hd => ⟨by show 1 + 1 ≤ 20; decide, ((lay_sg hc).append (lay_sg hd)).can⟩
  obtain ⟨rd, hrd, hat3⟩ := pick_anyA (ds := [D.str (Str.ofString ""), .str (sg oc), .str ((⟨#[nc]⟩ : Str) ++ ⟨#[lc]⟩), .str (Txt.upper ⟨#[nc]⟩), .str ((⟨#[nc]⟩ : Str) ++ sg oc), .str (Str.ofString " "), .str (Str.ofString "`"), .str (Str.ofString "_")]) hx0 hx1
  refine opx_ix (x := .lst _) rfl hat3 ?_
  have hfin : ∀ z', TxtOk z' → post μ3 (.str z') := fun z' hz' => hp _ _ hz' (D3.mono (by omega)) ((B1.trans B2).trans B3).keep
  simp only [List.mem_cons, List.not_mem_nil, or_false] at hrd
  rcases hrd with rfl | rfl | rfl | rfl | rfl | rfl | rfl | rfl
  · exact hfin _ ⟨by decide, by decide +kernel⟩
  · exact hfin _ (one oc hoc')
  · exact hfin _ (two nc (hz nc hnc) lc (hz lc hlc))
  · obtain ⟨u1, u2⟩ := up_known nc (hz nc hnc)
    exact hfin _ ⟨by omega, u2⟩
  · exact hfin _ (two nc (hz nc hnc) oc hoc')
  · exact hfin _ ⟨by decide, by decide +kernel⟩
  · exact hfin _ ⟨by decide, by decide +kernel⟩
  · exact hfin _ ⟨by decide, by decide +kernel⟩
end
/-- a machine as data -/
def machFs : List Str := ["_signs", "_begin", "_roads", "_end", "_steps"]
def stepsD (z : Str) (ro : List D) : D := .tup [.lst (ro.filterMap (stepD z (belowL z ro))), .int (belowL z ro)]
def stepsDct (z : Str) (ro : List D) : D := .dct (z.cps.toList.map fun c => .inr (sg c)) (z.cps.toList.map fun c => stepsD (sg c) ro)
def machDs (z : Str) (be ro en : List D) : List D := [.str z, .lst be, .lst ro, .lst en, stepsDct z ro]
def machD (C : Addr) (z : Str) (be ro en : List D) : D := .obj C machFs (machDs z be ro en)
theorem dueM_none {z : Str} {be ro en : List D} (h : dueM z be ro en = none) : okSigns z.cps.toList ∧ (∀ d ∈ be, numBad d = false) ∧ (∀ d ∈ ro, numBad (roadNum d) = false) ∧ (∀ d ∈ en, numBad d = false) ∧ (∀ d ∈ ro, roadBad z be.length d = none) ∧ be.length = en.length := by
  unfold dueM at h
  have none_all : ∀ {l : List D}, l.find? numBad = none → ∀ d ∈ l, numBad d = false := fun {l} e d hd => by
    have := List.find?_eq_none.mp e d hd
    simpa using this
  split at h
  · exact nomatch h
  next hs =>
  split at h
  · exact nomatch h
  next h1 =>
  split at h
  · exact nomatch h
  next h2 =>
  split at h
  · exact nomatch h
  next h3 =>
  split at h
  · exact nomatch h
  next h4 =>
  split at h
  · exact nomatch h
  next h5 =>
  exact ⟨Classical.not_not.mp hs, none_all h1, fun d hd => none_all h2 _ (List.mem_map.mpr ⟨d, hd, rfl⟩), none_all h3, List.findSome?_eq_none_iff.mp h4, Classical.not_not.mp h5⟩
theorem dueM_some {z : Str} {be ro en : List D} {k : Nat} {d : D} (h : dueM z be ro en = some (k, d)) : k = 0 ∨ k = 1 ∨ k = 2 ∨ k = 3 := by
  unfold dueM at h
  split at h
  · cases h; exact .inl rfl
  split at h
  · cases h; exact .inr (.inl rfl)
  split at h
  · cases h; exact .inr (.inl rfl)
  split at h
  · cases h; exact .inr (.inl rfl)
  split at h
  next e he =>
    cases h
    obtain ⟨r, _, hr⟩ := List.exists_of_findSome?_eq_some he
    unfold roadBad at hr
    split at hr
    · split at hr
      · cases hr; exact .inr (.inr (.inl rfl))
      · split at hr
        · cases hr; exact .inr (.inr (.inr rfl))
        · split at hr
          · cases hr; exact .inr (.inr (.inl rfl))
          · exact nomatch hr
    · exact nomatch hr
  split at h
  · cases h; exact .inr (.inr (.inl rfl))
  · exact nomatch h
theorem pairwise_nd {cs : List Nat} (h : cs.Pairwise (· < ·)) : cs.Nodup := h.imp fun {a b} z => Nat.ne_of_lt z
theorem signs_short {cs : List Nat} (h : okSigns cs) : cs.length ≤ 1000000 := by
  have := len_sub cs letters (pairwise_nd h.1) h.2.1
  rw [letters_len] at this
  omega
/-- what the __init__ does -/
def toldI (cls : Nat → Addr) (C : Addr) (x : Addr) (z : Str) (be ro en : List D) (μ : Mu) (post : DP) (exc : Mu → Addr → D → Prop) : Option (Nat × D) → Prop
  | none => post (mput μ x (.obj C machFs (machDs z be ro en))) .non
  | some (k, d) => exc μ (cls k) d
def P_minit (cls : Nat → Addr) (C : Addr) : PD := fun μ ds post exc => ∃ (x : Addr) (z : Str) (be ro en : List D), ds = [.at x, .str z, .lst be, .lst ro, .lst en] ∧ μ x = some (.obj C [] []) ∧ (∀ d ∈ be, NumOk d) ∧ (∀ d ∈ ro, RoadOk d) ∧ (∀ d ∈ en, NumOk d) ∧ be.length ≤ 1000 ∧ ro.length ≤ 24 ∧ en.length ≤ 1000 ∧ toldI cls C x z be ro en μ post exc (dueM z be ro en)
section
variable {P : Program} {w : World} {K : PySem.W.Frag} {mg : Str → Option Value} {base : Heap}
theorem c_minit {C f : Addr} {fd : FuncData} (hm : mg "Machine" = some (.ref C)) (M : Mk K C f) (F : Fun K "__init__" "Machine.__init__" s_Machine___init__ f fd) (Cl : Cls K C) (na : ∀ x ∈ machFs, NoAttr K C x) (n_list : mg "list" = none) (cls : Nat → Addr)
    (C_checked_machineX : Cal P w K mg base (L2.CX P w) 4 "checked_machine" s_checked_machine ["signs", "begin", "roads", "end"] (spD K 4 (P_cmachine cls))) (C_steps_of : Cal P w K mg base CX0 1 "steps_of" s_steps_of ["roads", "sign"] (spD K 2 P_steps)) :
    MkC P w K mg base (L2.CX P w) 5 "Machine" "Machine.__init__" C s_Machine___init__ ["self", "signs", "begin", "roads", "end"] (spD K 5 (P_minit cls C)) := by
  refine mkX hm M F sc_Machine___init__ (fun _ _ _ _ _ _ us hl => match us, hl with | [_, _, _, _, _], _ => rfl) fun f cdv A outer s H E hr => ⟨_,
    have hu64 := hr.units; (pss_cons (ps_expr (pe_cS C_checked_machineX hr (by decide) (takes_of rfl rfl rfl rfl) (pa_cons (pv 1) (pa_cons (pv 2) (pa_cons (pv 3) (pa_cons (pv 4) pa_nil))))))
 (pss_cons (ps_fld (pv 0) (pv 1) (by rfl))
 (pss_cons (ps_fld (pv 0) (pe_callTy call_list_of (by rfl) n_list (by decide +kernel) (pa_cons (pv 2) pa_nil)) (by rfl))
 (pss_cons (ps_fld (pv 0) (pe_callTy call_list_of (by rfl) n_list (by decide +kernel) (pa_cons (pv 3) pa_nil)) (by rfl))
 (pss_cons (ps_fld (pv 0) (pe_callTy call_list_of (by rfl) n_list (by decide +kernel) (pa_cons (pv 4) pa_nil)) (by rfl))
 (pss_one (ps_fld (pv 0) (pe_dc (own := [("sign", 5)]) rfl sc_Machine___init__.nd (pi_str (pv 1)) (blkOk_by (own := [("sign", 5)]) (N := ["self", "signs", "begin", "roads", "end", "sign"]) (sc := defScope s_Machine___init__) (by decide +kernel)) (fun _ _ _ _ _ => pg_via (pg_name (i := 5) sc_Machine___init__.nd rfl (Or.inl rfl)) (by (try dsimp only [Cx.blk, Cx.nox, Cx.tr]) <;> exact rfl)) (fun _ _ _ _ _ => pts_via pts_nil (by (try dsimp only [Cx.blk, Cx.nox, Cx.tr]) <;> exact rfl)) (fun _ _ _ _ _ => pe_via (pv 5) (by (try dsimp only [Cx.blk, Cx.nox, Cx.tr]) <;> exact rfl)) (fun _ _ _ _ _ => pe_via (pe_c C_steps_of hr (by first | decide | omega) (pa_cons (pv 3) (pa_cons (pv 5) pa_nil))) (by (try dsimp only [Cx.blk, Cx.nox, Cx.tr]) <;> exact rfl))) (by rfl)))))))), fun μ ds post exc hl hP => ?_⟩
  obtain ⟨x, z, be, ro, en, rfl, hx, hbe, hro, hen, lb, lr, le, ht⟩ := hP
  walk_at "d0"
  walk_at "dx"
  refine ⟨z, be, ro, en, rfl, hbe, hro, hen, lb, by omega, le, ?_⟩
  cases hd : dueM z be ro en with
  | some e =>
    obtain ⟨k, d⟩ := e
    rw [hd] at ht
    exact ht
  | none =>
    rw [hd] at ht
    obtain ⟨os, nb, nr, ne, rb, le2⟩ := dueM_none hd
    have ht : post (mput μ x (.obj C machFs (machDs z be ro en))) .non := ht
    unfold told
    dsimp only
    walk_at "dx"
    refine gs_fld ?_
    walk_at "dx"
    refine ⟨x, C, _, _, rfl, hx, Cl, na _ (by decide), by decide, by decide, ?_⟩
    walk_at "dx"
    refine gs_fld ?_
    walk_at "dx"
    refine cax_listL isL_lst ?_
    walk_at "dx"
    refine ⟨x, C, _, _, rfl, mput_same, Cl, na _ (by decide), by decide, by decide, ?_⟩
    walk_at "dx"
    refine gs_fld ?_
    walk_at "dx"
    refine cax_listL isL_lst ?_
    walk_at "dx"
    refine ⟨x, C, _, _, rfl, mput_same, Cl, na _ (by decide), by decide, by decide, ?_⟩
    walk_at "dx"
    refine gs_fld ?_
    walk_at "dx"
    refine cax_listL isL_lst ?_
    walk_at "dx"
    refine ⟨x, C, _, _, rfl, mput_same, Cl, na _ (by decide), by decide, by decide, ?_⟩
    walk_at "dx"
    refine gs_fld ?_
    refine evx_dcP (itx_str ?_)
    walk_at "dx"
    refine ⟨⟨by rw [signsD_eq, List.length_map]; exact signs_short os, fun _ _ => True.intro⟩, fun d => match d with | .str y => .inr y | _ => .inl 0, fun d => match d with | .str y => stepsD y ro | _ => .non, ?_, ?_, ?_⟩
    · rw [signsD_eq, List.map_map]
      exact (pairwise_nd os.1).map _ fun a b hab he => hab (by injection he with he; injection he with he; injection he with he; injection he)
    · intro d hd μ' hμ
      rw [signsD_eq] at hd
      obtain ⟨c, hc, rfl⟩ := List.mem_map.mp hd
      refine tcx_name (by decide) ?_
      refine evb_yes ⟨rfl, rfl, ?_⟩
      walk_at "dx"
      exact ⟨sg c, ro, rfl, fun d hd => ⟨hro d hd, nr d hd⟩, lr, rfl, rfl⟩
    walk_at "dx"
    refine ⟨x, C, _, _, rfl, mput_same, Cl, na _ (by decide), by decide, by decide, ?_⟩
    rw [signsD_eq, List.map_map, List.map_map, mput_put, mput_put, mput_put, mput_put]
    exact ht
/-- what is read of a machine -/
def P_mget (C : Addr) (i : Nat) : PD := fun μ ds post _ => ∃ (z : Str) (be ro en : List D) (d : D), ds = [machD C z be ro en] ∧ (machDs z be ro en)[i]? = some d ∧ post μ d
def P_mlen (C : Addr) : PD := fun μ ds post _ => ∃ (z : Str) (be ro en : List D), ds = [machD C z be ro en] ∧ post μ (.int be.length)
theorem c_msigns {C p g : Addr} {fd : FuncData} (hp : PropOf K C "signs" p g) (F : Fun K "signs" "Machine.signs" s_Machine_signs g fd) (Cl : Cls K C) (na : ∀ x ∈ machFs, NoAttr K C x) : Prp P w K mg base 1 C "signs" (spD K 1 (P_mget C 0)) := by
  refine prp0 hp F sc_Machine_signs (fun _ _ _ _ _ _ us hl => match us, hl with | [_], _ => rfl) fun f cdv A outer s H E hr => ⟨_, (pss_one (ps_ret (pe_fld (pv 0) rfl))), fun μ ds post exc hl hP => ?_⟩
  obtain ⟨z, be, ro, en, d, rfl, hd, hp⟩ := hP
  cases hd
  walk_at "d0"
  walk_at "dx"
  refine evx_fld ?_
  walk_at "dx"
  exact ⟨C, machFs, _, _, .inl rfl, Cl, na _ (by decide), rfl, hp⟩
theorem c_mbegin {C p g : Addr} {fd : FuncData} (hp : PropOf K C "begin" p g) (F : Fun K "begin" "Machine.begin" s_Machine_begin g fd) (Cl : Cls K C) (na : ∀ x ∈ machFs, NoAttr K C x) (n_list : mg "list" = none) : Prp P w K mg base 1 C "begin" (spD K 1 (P_mget C 1)) := by
  refine prp0 hp F sc_Machine_begin (fun _ _ _ _ _ _ us hl => match us, hl with | [_], _ => rfl) fun f cdv A outer s H E hr => ⟨_, (pss_one (ps_ret (pe_callTy call_list_of (by rfl) n_list (by decide +kernel) (pa_cons (pe_fld (pv 0) rfl) pa_nil)))), fun μ ds post exc hl hP => ?_⟩
  obtain ⟨z, be, ro, en, d, rfl, hd, hp⟩ := hP
  cases hd
  walk_at "d0"
  walk_at "dx"
  refine evx_fld ?_
  walk_at "dx"
  refine ⟨C, machFs, _, _, .inl rfl, Cl, na _ (by decide), rfl, ?_⟩
  walk_at "dx"
  exact cax_listL isL_lst hp
theorem c_mroads {C p g : Addr} {fd : FuncData} (hp : PropOf K C "roads" p g) (F : Fun K "roads" "Machine.roads" s_Machine_roads g fd) (Cl : Cls K C) (na : ∀ x ∈ machFs, NoAttr K C x) (n_list : mg "list" = none) : Prp P w K mg base 1 C "roads" (spD K 1 (P_mget C 2)) := by
  refine prp0 hp F sc_Machine_roads (fun _ _ _ _ _ _ us hl => match us, hl with | [_], _ => rfl) fun f cdv A outer s H E hr => ⟨_, (pss_one (ps_ret (pe_callTy call_list_of (by rfl) n_list (by decide +kernel) (pa_cons (pe_fld (pv 0) rfl) pa_nil)))), fun μ ds post exc hl hP => ?_⟩
  obtain ⟨z, be, ro, en, d, rfl, hd, hp⟩ := hP
  cases hd
  walk_at "d0"
  walk_at "dx"
  refine evx_fld ?_
  walk_at "dx"
  refine ⟨C, machFs, _, _, .inl rfl, Cl, na _ (by decide), rfl, ?_⟩
  walk_at "dx"
  exact cax_listL isL_lst hp
theorem c_mend {C p g : Addr} {fd : FuncData} (hp : PropOf K C "end" p g) (F : Fun K "end" "Machine.end" s_Machine_end g fd) (Cl : Cls K C) (na : ∀ x ∈ machFs, NoAttr K C x) (n_list : mg "list" = none) : Prp P w K mg base 1 C "end" (spD K 1 (P_mget C 3)) := by
  refine prp0 hp F sc_Machine_end (fun _ _ _ _ _ _ us hl => match us, hl with | [_], _ => rfl) fun f cdv A outer s H E hr => ⟨_, (pss_one (ps_ret (pe_callTy call_list_of (by rfl) n_list (by decide +kernel) (pa_cons (pe_fld (pv 0) rfl) pa_nil)))), fun μ ds post exc hl hP => ?_⟩
  obtain ⟨z, be, ro, en, d, rfl, hd, hp⟩ := hP
  cases hd
  walk_at "d0"
  walk_at "dx"
  refine evx_fld ?_
  walk_at "dx"
  refine ⟨C, machFs, _, _, .inl rfl, Cl, na _ (by decide), rfl, ?_⟩
  walk_at "dx"
  exact cax_listL isL_lst hp
theorem c_mlen {C : Addr} (h : Mtd K C "__len__" "Machine.__len__" s_Machine___len__) (Cl : Cls K C) (na : ∀ x ∈ machFs, NoAttr K C x) (n_len : mg "len" = none) : Met P w K mg base CX0 1 C "__len__" ["self"] (spD K 1 (P_mlen C)) := by
  refine met0 h sc_Machine___len__ (fun _ _ _ _ _ _ us hl => match us, hl with | [_], _ => rfl) fun f cdv A outer s H E hr => ⟨_, (pss_one (ps_ret (pe_callB call_len (by rfl) n_len (by decide +kernel) (pa_cons (pe_fld (pv 0) rfl) pa_nil)))), fun μ ds post exc hl hP => ?_⟩
  obtain ⟨z, be, ro, en, rfl, hp⟩ := hP
  walk_at "d0"
  walk_at "dx"
  refine evx_fld ?_
  walk_at "dx"
  refine ⟨C, machFs, _, _, .inl rfl, Cl, na _ (by decide), rfl, ?_⟩
  walk_at "dx"
  exact hp
end
def toldD (C : Addr) (z : Str) (be ro en : List D) : D := match dueM z be ro en with
  | none => .tup [machD C z be ro en, .non]
  | some e => .tup [.non, dueD (some e)]
def P_told (C : Addr) : PD := fun μ ds post _ => ∃ (z : Str) (be ro en : List D) (b : Bool), ds = [partsD z be ro en, .bl b] ∧ (∀ d ∈ be, NumOk d) ∧ (∀ d ∈ ro, RoadOk d) ∧ (∀ d ∈ en, NumOk d) ∧ be.length ≤ 1000 ∧ ro.length ≤ 24 ∧ en.length ≤ 1000 ∧ post μ (toldD C z be ro en)
section
variable {P : Program} {w : World} {K : PySem.W.Frag} {mg : Str → Option Value} {base : Heap} {C A_InvalidSigns A_InvalidNumber A_InvalidMachine A_UnknownSign A_UnlikeSigns A_WorthError fI : Addr}
theorem c_told (h : Std K mg "_law_told" s__law_told) (n_isinstance : mg "isinstance" = none) (n_len : mg "len" = none) (n_range : mg "range" = none) (n_ValueError : mg "ValueError" = none)
    (X_InvalidSigns : ExcD K mg "InvalidSigns" A_InvalidSigns fI) (X_InvalidNumber : ExcD K mg "InvalidNumber" A_InvalidNumber fI) (X_InvalidMachine : ExcD K mg "InvalidMachine" A_InvalidMachine fI) (X_UnknownSign : ExcD K mg "UnknownSign" A_UnknownSign fI) (X_UnlikeSigns : ExcD K mg "UnlikeSigns" A_UnlikeSigns fI) (X_WorthError : ExcD K mg "WorthError" A_WorthError fI) (G : ClsG K)
    (cls : Nat → Addr) (k0 : cls 0 = A_InvalidSigns) (k1 : cls 1 = A_InvalidNumber) (k2 : cls 2 = A_InvalidMachine) (k3 : cls 3 = A_UnknownSign) (k4 : cls 4 = A_UnlikeSigns)
    (he : ∀ i, i ≤ 3 → PySem.W.exmOne K (.ref (cls i)) (.ref A_WorthError) = some true ∧ PySem.W.kitOne K (.ref (cls i)) (.type "ValueError") = some true ∧ ∀ j, j ≤ 4 → PySem.W.kitOne K (.ref (cls i)) (.ref (cls j)) = some (decide (i = j)))
    (Mk_Machine : MkC P w K mg base (L2.CX P w) 5 "Machine" "Machine.__init__" C s_Machine___init__ ["self", "signs", "begin", "roads", "end"] (spD K 5 (P_minit cls C))) : Cal P w K mg base CX0 7 "_law_told" s__law_told ["_law_parts", "_law_by_name"] (spD K 2 (P_told C)) := by
  refine cal0 h sc__law_told (fun _ _ _ _ _ _ us hl => match us, hl with | [_, _], _ => rfl) fun f cdv A outer s H E hr => ⟨_,
    have hu64 := hr.units; (pss_cons (ps_asg (pv 0) (pg_lst rfl (pgs_cons (pg_name (i := 2) sc__law_told.nd rfl (Or.inl rfl)) (pgs_cons (pg_name (i := 3) sc__law_told.nd rfl (Or.inl rfl)) (pgs_cons (pg_name (i := 4) sc__law_told.nd rfl (Or.inl rfl)) (pgs_cons (pg_name (i := 5) sc__law_told.nd rfl (Or.inl rfl)) pgs_nil))))))
 (pss_cons (ps_asg (pe_tup (pa_cons pe_non (pa_cons pe_non pa_nil))) (pg_tup rfl (pgs_cons (pg_name (i := 6) sc__law_told.nd rfl (Or.inl rfl)) (pgs_cons (pg_name (i := 7) sc__law_told.nd rfl (Or.inl rfl)) pgs_nil))))
 (pss_cons (ps_try_keep (i := 8) (c := .ref A_WorthError) rfl rfl rfl sc__law_told.nd rfl rfl ⟨rfl, by decide, Or.inl X_WorthError.m⟩ (fun W pn xe tk _ => (pss_one (ps_if (pt_val (pv 1))
 (pss_one (ps_set (i := 6) sc__law_told.nd rfl (Or.inl rfl) (pe_mkKS (m := 4) (pm := [0, 3, 4, 2, 1]) (ks := ["end", "roads", "signs", "begin"]) Mk_Machine hr (by decide) tk rfl (fun _ _ _ _ _ _ us ws h1 h2 => match us, ws, h1, h2 with | [_], [_, _, _, _], _, _ => rfl) (pk_cons (pv 5) (pk_cons (pv 4) (pk_cons (pv 2) (pk_cons (pv 3) pk_nil)))))))
 (pss_one (ps_set (i := 6) sc__law_told.nd rfl (Or.inl rfl) (pe_mkS Mk_Machine hr (by decide) tk (pa_cons (pv 2) (pa_cons (pv 3) (pa_cons (pv 4) (pa_cons (pv 5) pa_nil)))))))))) (fun a oe pn => (pss_one (ps_set (i := 7) sc__law_told.nd rfl (Or.inl rfl) (pv 8)))))
 (pss_cons (ps_if (pt_cmp (pc_isN (pv 7)))
 (pss_one (ps_ret (pe_tup (pa_cons (pv 6) (pa_cons pe_non pa_nil)))))
 pss_nil)
 (pss_cons (ps_set (i := 9) sc__law_told.nd rfl (Or.inr rfl) (pe_lst (pa_cons (pe_callB call_isU (by rfl) n_isinstance (by decide +kernel) (pa_cons (pv 7) (pa_cons (pe_glob (v := .ref A_InvalidSigns) rfl X_InvalidSigns.m rfl) pa_nil))) (pa_cons (pe_callB call_isU (by rfl) n_isinstance (by decide +kernel) (pa_cons (pv 7) (pa_cons (pe_glob (v := .ref A_InvalidNumber) rfl X_InvalidNumber.m rfl) pa_nil))) (pa_cons (pe_callB call_isU (by rfl) n_isinstance (by decide +kernel) (pa_cons (pv 7) (pa_cons (pe_glob (v := .ref A_InvalidMachine) rfl X_InvalidMachine.m rfl) pa_nil))) pa_nil)))))
 (pss_cons (ps_set (i := 9) sc__law_told.nd rfl (Or.inr rfl) (pe_op op_addU (pv 9) (pe_lst (pa_cons (pe_callB call_isU (by rfl) n_isinstance (by decide +kernel) (pa_cons (pv 7) (pa_cons (pe_glob (v := .ref A_UnknownSign) rfl X_UnknownSign.m rfl) pa_nil))) (pa_cons (pe_callB call_isU (by rfl) n_isinstance (by decide +kernel) (pa_cons (pv 7) (pa_cons (pe_glob (v := .ref A_UnlikeSigns) rfl X_UnlikeSigns.m rfl) pa_nil))) pa_nil)))))
 (pss_cons (ps_set (i := 10) sc__law_told.nd rfl (Or.inr rfl) (pe_lst (pa_cons pe_str (pa_cons pe_str (pa_cons pe_str (pa_cons pe_str (pa_cons pe_str pa_nil)))))))
 (pss_cons (ps_setLc (i := 11) (own := [("_law_k", 12)]) rfl sc__law_told.nd rfl rfl (sw_true rfl rfl rfl (by decide +kernel)) (pi_range1 rfl n_range (pa_cons pe_int pa_nil)) (blkOk_by (own := [("_law_k", 12)]) (N := ["_law_parts", "_law_by_name", "_law_signs_here", "_law_begin", "_law_roads", "_law_end", "_law_made", "_law_caught", "e", "_law_kinds", "_law_names", "_law_told_here", "_law_k"]) (sc := defScope s__law_told) (by decide +kernel)) (fun _ _ _ _ _ => pg_via (pg_name (i := 12) sc__law_told.nd rfl (Or.inl rfl)) (by (try dsimp only [Cx.blk, Cx.nox, Cx.tr]) <;> exact rfl)) (fun _ _ _ _ _ => pts_via (pts_one (pt_val (pe_ix ix_seq (pv 9) (pv 12) (fun _ _ => rfl)))) (by (try dsimp only [Cx.blk, Cx.nox, Cx.tr]) <;> exact rfl)) (fun _ _ _ _ _ => pe_via (pe_ix ix_seq (pv 10) (pv 12) (fun _ _ => rfl)) (by (try dsimp only [Cx.blk, Cx.nox, Cx.tr]) <;> exact rfl)))
 (pss_cons (ps_if (PW.pt (pw_or (pt_cmpR (op_neU hu64) (pe_callB call_len (by rfl) n_len (by decide +kernel) (pa_cons (pv 11) pa_nil)) pe_int (nomark _)) (pw_or1 (pt_not (pt_val (pe_callB call_isU (by rfl) n_isinstance (by decide +kernel) (pa_cons (pv 7) (pa_cons (pe_bltn (v := .ty "ValueError") (by rfl) n_ValueError (by decide +kernel) rfl) pa_nil))))))))
 (pss_one (ps_ret (pe_tup (pa_cons pe_non (pa_cons (pe_tup (pa_cons pe_str (pa_cons pe_non pa_nil))) pa_nil)))))
 pss_nil)
 (pss_one (ps_ret (pe_tup (pa_cons pe_non (pa_cons (pe_tup (pa_cons (pe_ix ix_seq (pv 11) pe_int (fun _ _ => rfl)) (pa_cons (pe_xv (pv 7)) pa_nil))) pa_nil)))))))))))))), fun μ ds post exc hl hP => ?_⟩
  obtain ⟨z, be, ro, en, bn, rfl, hbe, hro, hen, lb, lr, le, hp⟩ := hP
  walk_at "d0"
  walk_at "dx"
  refine tgx_lst isL_lst rfl ?_
  walk_at "dx"
  refine gs_at (fun μ' ρ' => (μ' = μ ∧ dueM z be ro en = none ∧ ρ' = [some (partsD z be ro en), some (.bl bn), some (.str z), some (.lst be), some (.lst ro), some (.lst en), some (machD C z be ro en), some .non, none, none, none, none, none]) ∨
    (∃ x k d, μ x = none ∧ μ' = mput μ x (.obj C [] []) ∧ dueM z be ro en = some (k, d) ∧ ρ' = [some (partsD z be ro en), some (.bl bn), some (.str z), some (.lst be), some (.lst ro), some (.lst en), some .non, some (.exc (cls k) d), none, none, none, none, none])) ?_ ?_
  · refine gs_try (by decide) (fun W' => ?_)
    have key : ∀ (x : Addr) (Φ : DP) (Xc : Mu → Addr → D → Prop), μ x = none → (dueM z be ro en = none → Φ μ (machD C z be ro en)) → (∀ k d, dueM z be ro en = some (k, d) → k ≤ 3 → Xc (mput μ x (.obj C [] [])) (cls k) d) →
        P_minit cls C (mput μ x (.obj C [] [])) [.at x, .str z, .lst be, .lst ro, .lst en] (Frozen C x Φ) Xc := by
      intro x Φ Xc hx h1 h2
      refine ⟨x, z, be, ro, en, rfl, mput_same, hbe, hro, hen, lb, lr, le, ?_⟩
      cases hd : dueM z be ro en with
      | none => exact ⟨rfl, _, _, mput_same, by rw [mput_put, mcut_put hx]; exact h1 hd⟩
      | some e => exact h2 e.1 e.2 hd (by rcases dueM_some hd with q | q | q | q <;> omega)
    walk_at "dx"
    cases bn with
    | true =>
      walk_at "dz"
      refine evx_makeKSZ ?_
      walk_at "dx"
      intro x hx
      refine ⟨rfl, key x _ _ hx (fun hd => ?_) (fun k d hd hk => ?_)⟩
      · walk_at "dx"
        exact .inl ⟨rfl, hd, rfl⟩
      · exact ⟨(he k hk).1, Nat.le_of_ble_eq_true rfl, .inr ⟨x, k, d, hx, rfl, hd, rfl⟩⟩
    | false =>
      walk_at "dz"
      refine evx_makeSZ ?_
      walk_at "dx"
      intro x hx
      refine ⟨rfl, key x _ _ hx (fun hd => ?_) (fun k d hd hk => ?_)⟩
      · walk_at "dx"
        exact .inl ⟨rfl, hd, rfl⟩
      · exact ⟨(he k hk).1, Nat.le_of_ble_eq_true rfl, .inr ⟨x, k, d, hx, rfl, hd, rfl⟩⟩
  rintro μ1 ρ1 (⟨rfl, hd, rfl⟩ | ⟨x, k, d, hx, rfl, hd, rfl⟩)
  · unfold toldD at hp
    rw [hd] at hp
    walk_at "dz"
    exact hp
  · refine gs_cut (p := x) ?_
    rw [mcut_put hx]
    unfold toldD at hp
    rw [hd] at hp
    have hk : k ≤ 3 := by rcases dueM_some hd with q | q | q | q <;> omega
    have Xk : ExcK K (cls k) := by
      rcases dueM_some hd with rfl | rfl | rfl | rfl
      · rw [k0]; exact X_InvalidSigns.k
      · rw [k1]; exact X_InvalidNumber.k
      · rw [k2]; exact X_InvalidMachine.k
      · rw [k3]; exact X_UnknownSign.k
    obtain ⟨_, hv, hj⟩ := he k hk
    subst k0 k1 k2 k3 k4
    walk_at "dz"
    refine evx_lst ?_
    walk_at "dz"
    refine cax_isX Xk G (hj 0 (by decide)) ?_
    walk_at "dz"
    refine cax_isX Xk G (hj 1 (by decide)) ?_
    walk_at "dz"
    refine cax_isX Xk G (hj 2 (by decide)) ?_
    walk_at "dz"
    refine evx_lst ?_
    walk_at "dz"
    refine cax_isX Xk G (hj 3 (by decide)) ?_
    walk_at "dz"
    refine cax_isX Xk G (hj 4 (by decide)) ?_
    walk_at "dz"
    refine opx_r (opx_r (opx_l (opx_cat real_lst real_lst (Nat.le_of_ble_eq_true rfl) ?_)))
    walk_at "dz"
    refine evx_lst ?_
    walk_at "dz"
    refine evx_lcP (itx_range1 ?_)
    walk_at "dz"
    refine ⟨⟨by omega, by omega⟩, ⟨by rw [rangeD_len]; decide, fun _ _ => True.intro⟩, fun d => match d with | .int i => decide ((k : Int) = i) | _ => false,
      fun d => match d with | .int 0 => .str "signs" | .int 1 => .str "number" | .int 2 => .str "machine" | .int 3 => .str "sign" | _ => .str "unlike", ?_, ?_⟩
    · intro d' hd' μ' hμ
      have e5 : rangeD 0 (5 : Int).toNat = [.int 0, .int 1, .int 2, .int 3, .int 4] := rfl
      rw [e5] at hd'
      simp only [List.mem_cons, List.not_mem_nil, or_false] at hd'
      have e0 : ∀ n : Nat, decide (k = n) = decide ((k : Int) = (n : Int)) := fun n => decide_eq_decide.mpr (by omega)
      rcases hd' with rfl | rfl | rfl | rfl | rfl
      all_goals
        refine tcx_name (by decide) ?_
        walk_at "dx"
        refine ⟨e0 _, fun _ => ?_⟩
        walk_at "dx"
        first | exact ⟨rfl, rfl⟩ | exact rfl
    rcases dueM_some hd with rfl | rfl | rfl | rfl
    all_goals
      walk_at "dz"
      refine cax_isXB Xk G hv ?_
      walk_at "dz"
      refine ⟨Xk, ?_⟩
      walk_at "dz"
      exact hp
end
/-- the parts of a machine, wrong ones too; n: how great they may be -/
structure PartsOk (n : Nat) (z : Str) (be ro en : List D) : Prop where
  oz : Lay z
  lz : z.length ≤ n
  ob : ∀ d ∈ be, NumOk d
  orr : ∀ d ∈ ro, RoadOk d
  oe : ∀ d ∈ en, NumOk d
  lb : be.length ≤ n + 3
  lr : ro.length ≤ 24
  le : en.length ≤ n + 3
theorem PartsOk.mono {n m : Nat} {z : Str} {be ro en : List D} (h : PartsOk n z be ro en) (hm : n ≤ m) : PartsOk m z be ro en := ⟨h.oz, Nat.le_trans h.lz hm, h.ob, h.orr, h.oe, Nat.le_trans h.lb (by omega), h.lr, Nat.le_trans h.le (by omega)⟩
/-- three lists that may change, beside a deck -/
structure Trio (a g p1 p2 p3 : Addr) (c : Int) (μ μ' : Mu) (be ro en : List D) : Prop where
  e1 : μ' p1 = some (.lst be)
  e2 : μ' p2 = some (.lst ro)
  e3 : μ' p3 = some (.lst en)
  dk : Deck a g c μ'
  Kp : Keep a g μ μ'
structure TrioA (a g p1 p2 p3 : Addr) (μ : Mu) : Prop where
  n12 : p1 ≠ p2
  n13 : p1 ≠ p3
  n23 : p2 ≠ p3
  a1 : p1 ≠ a ∧ p1 ≠ g
  a2 : p2 ≠ a ∧ p2 ≠ g
  a3 : p3 ≠ a ∧ p3 ≠ g
  m1 : μ p1 = none
  m2 : μ p2 = none
  m3 : μ p3 = none
section
variable {a g p1 p2 p3 : Addr} {c c' : Int} {μ μ' μ2 : Mu} {be ro en : List D}
theorem Trio.but (h : Trio a g p1 p2 p3 c μ μ' be ro en) (A : TrioA a g p1 p2 p3 μ) (d : Deck a g c' μ2) (b : Keep a g μ' μ2) : Trio a g p1 p2 p3 c' μ μ2 be ro en :=
  ⟨b _ _ A.a1.1 A.a1.2 h.e1, b _ _ A.a2.1 A.a2.2 h.e2, b _ _ A.a3.1 A.a3.2 h.e3, d, h.Kp.trans b⟩
theorem Trio.mono (h : Trio a g p1 p2 p3 c μ μ' be ro en) (hc : c ≤ c') : Trio a g p1 p2 p3 c' μ μ' be ro en := ⟨h.e1, h.e2, h.e3, h.dk.mono hc, h.Kp⟩
theorem Trio.put1 (h : Trio a g p1 p2 p3 c μ μ' be ro en) (A : TrioA a g p1 p2 p3 μ) (ds : List D) : Trio a g p1 p2 p3 c μ (mput μ' p1 (.lst ds)) ds ro en :=
  ⟨mput_same, (mput_ne (Ne.symm A.n12)).trans h.e2, (mput_ne (Ne.symm A.n13)).trans h.e3, h.dk.but A.a1.1 A.a1.2, h.Kp.new A.m1⟩
theorem Trio.put2 (h : Trio a g p1 p2 p3 c μ μ' be ro en) (A : TrioA a g p1 p2 p3 μ) (ds : List D) : Trio a g p1 p2 p3 c μ (mput μ' p2 (.lst ds)) be ds en :=
  ⟨(mput_ne A.n12).trans h.e1, mput_same, (mput_ne (Ne.symm A.n23)).trans h.e3, h.dk.but A.a2.1 A.a2.2, h.Kp.new A.m2⟩
theorem Trio.put3 (h : Trio a g p1 p2 p3 c μ μ' be ro en) (A : TrioA a g p1 p2 p3 μ) (ds : List D) : Trio a g p1 p2 p3 c μ (mput μ' p3 (.lst ds)) be ro ds :=
  ⟨(mput_ne A.n13).trans h.e1, (mput_ne A.n23).trans h.e2, mput_same, h.dk.but A.a3.1 A.a3.2, h.Kp.new A.m3⟩
end
theorem set_all {P : D → Prop} {ds : List D} {d : D} {j : Nat} (h : ∀ e ∈ ds, P e) (hd : P d) : ∀ e ∈ ds.set j d, P e := fun e he => by
  rcases List.mem_or_eq_of_mem_set he with q | q
  · exact h e q
  · rw [q]; exact hd
theorem erase_all {P : D → Prop} {ds : List D} {j : Nat} (h : ∀ e ∈ ds, P e) : ∀ e ∈ ds.eraseIdx j, P e := fun e he => h e (List.mem_of_mem_eraseIdx he)
theorem ins_all {P : D → Prop} {ds : List D} {d : D} {j : Nat} (h : ∀ e ∈ ds, P e) (hd : P d) : ∀ e ∈ ds.take j ++ [d] ++ ds.drop j, P e := fun e he => by
  rcases List.mem_append.mp he with he | he
  · exact mem_snoc (fun e he => h e (List.mem_of_mem_take he)) hd e he
  · exact h e (List.mem_of_mem_drop he)
theorem ix_nat {n : Nat} {j : Int} (h0 : 0 ≤ j) (h1 : j < n) : ixN n j = some j.toNat := by
  unfold ixN
  rw [if_pos h0, if_pos h1]
theorem ins_len {ds : List D} {d : D} {j : Nat} : (ds.take j ++ [d] ++ ds.drop j).length = ds.length + 1 := by
  rw [List.length_append, List.length_append, List.length_take, List.length_drop, List.length_singleton]
  omega
theorem lst_ne {ds : List D} (h : ds ≠ []) : 0 < ds.length := List.length_pos_iff.mpr h
theorem emptyB {ds : List D} (h : ds.isEmpty = false) : 0 < ds.length := by
  cases ds with
  | nil => exact nomatch h
  | cons _ _ => exact Nat.succ_pos _
def P_bent : PD := fun μ ds post _ => ∃ (a g : Addr) (c : Int) (n : Nat) (z : Str) (be ro en : List D) (kd : Int), ds = [.at a, partsD z be ro en, .int kd] ∧ Deck a g c μ ∧ c ≤ 800000 ∧ n ≤ 15 ∧ PartsOk n z be ro en ∧
  ∀ μ' z' be' ro' en', PartsOk (n + 1) z' be' ro' en' → Deck a g (c + 20) μ' → Keep a g μ μ' → post μ' (partsD z' be' ro' en')
section
variable {P : Program} {w : World} {K : PySem.W.Frag} {mg : Str → Option Value} {base : Heap}
theorem c_bent (h : Std K mg "_law_bent" s__law_bent) (n_len : mg "len" = none) (n_list : mg "list" = none) (C__law_draw : Cal P w K mg base CX0 1 "_law_draw" s__law_draw ["_law_deck_here", "_law_limit"] (spD K 2 P_draw)) (C__law_number : Cal P w K mg base CX0 3 "_law_number" s__law_number ["_law_deck_here"] (spD K 1 P_num)) (C__law_wrong_number : Cal P w K mg base CX0 2 "_law_wrong_number" s__law_wrong_number ["_law_deck_here"] (spD K 1 P_num)) (C__law_wrong_signs : Cal P w K mg base CX0 2 "_law_wrong_signs" s__law_wrong_signs ["_law_deck_here", "_law_signs_here"] (spD K 2 P_wsigns)) (C__law_wrong_sign : Cal P w K mg base CX0 2 "_law_wrong_sign" s__law_wrong_sign ["_law_deck_here", "_law_signs_here"] (spD K 2 P_wsign)) : Cal P w K mg base CX0 4 "_law_bent" s__law_bent ["_law_deck_here", "_law_parts", "_law_kind"] (spD K 3 P_bent) := by
  refine cal0 h sc__law_bent (fun _ _ _ _ _ _ us hl => match us, hl with | [_, _, _], _ => rfl) fun f cdv A outer s H E hr => ⟨_,
    have hu64 := hr.units; (pss_cons (ps_asg (pe_tup (pa_cons (pe_ix ix_seq (pv 1) pe_int (fun _ _ => rfl)) (pa_cons (pe_callTy call_list_of (by rfl) n_list (by decide +kernel) (pa_cons (pe_ix ix_seq (pv 1) pe_int (fun _ _ => rfl)) pa_nil)) (pa_cons (pe_callTy call_list_of (by rfl) n_list (by decide +kernel) (pa_cons (pe_ix ix_seq (pv 1) pe_int (fun _ _ => rfl)) pa_nil)) (pa_cons (pe_callTy call_list_of (by rfl) n_list (by decide +kernel) (pa_cons (pe_ix ix_seq (pv 1) pe_int (fun _ _ => rfl)) pa_nil)) pa_nil))))) (pg_tup rfl (pgs_cons (pg_name (i := 3) sc__law_bent.nd rfl (Or.inl rfl)) (pgs_cons (pg_name (i := 4) sc__law_bent.nd rfl (Or.inl rfl)) (pgs_cons (pg_name (i := 5) sc__law_bent.nd rfl (Or.inl rfl)) (pgs_cons (pg_name (i := 6) sc__law_bent.nd rfl (Or.inl rfl)) pgs_nil))))))
 (pss_cons (ps_if (pt_cmpR (op_eqU hu64) (pv 2) pe_int (nomark _))
 (pss_one (ps_set (i := 3) sc__law_bent.nd rfl (Or.inl rfl) (pe_ifExp (pt_cmpR (op_neU hu64) (pv 3) pe_str (nomark _)) (pe_c C__law_wrong_signs hr (by first | decide | omega) (pa_cons (pv 0) (pa_cons (pv 3) pa_nil))) (pv 3))))
 (pss_one (ps_if (PW.pt (pw_and (pt_cmpR (op_eqU hu64) (pv 2) pe_int (nomark _)) (pw_and1 (pt_cmpR (op_neU hu64) (pv 4) (pe_lst pa_nil) (nomark _)))))
 (pss_one (ps_asg (pe_c C__law_wrong_number hr (by first | decide | omega) (pa_cons (pv 0) pa_nil)) (pg_sub (pv 4) (pe_c C__law_draw hr (by first | decide | omega) (pa_cons (pv 0) (pa_cons (pe_callB call_len (by rfl) n_len (by decide +kernel) (pa_cons (pv 4) pa_nil)) pa_nil))) set_list)))
 (pss_one (ps_if (PW.pt (pw_and (pt_cmpR (op_eqU hu64) (pv 2) pe_int (nomark _)) (pw_and1 (pt_cmpR (op_neU hu64) (pv 6) (pe_lst pa_nil) (nomark _)))))
 (pss_one (ps_asg (pe_c C__law_wrong_number hr (by first | decide | omega) (pa_cons (pv 0) pa_nil)) (pg_sub (pv 6) (pe_c C__law_draw hr (by first | decide | omega) (pa_cons (pv 0) (pa_cons (pe_callB call_len (by rfl) n_len (by decide +kernel) (pa_cons (pv 6) pa_nil)) pa_nil))) set_list)))
 (pss_one (ps_if (pt_cmpR (op_eqU hu64) (pv 2) pe_int (nomark _))
 (pss_cons (ps_set (i := 7) sc__law_bent.nd rfl (Or.inl rfl) (pe_ix ix_seq (pe_lst (pa_cons (pv 4) (pa_cons (pv 6) pa_nil))) (pe_c C__law_draw hr (by first | decide | omega) (pa_cons (pv 0) (pa_cons pe_int pa_nil))) (fun _ _ => rfl)))
 (pss_one (ps_if (PW.pt (pw_and (pt_cmpR (op_neU hu64) (pv 7) (pe_lst pa_nil) (nomark _)) (pw_and1 (PW.pt (pw_or (pt_cmpR (op_eqU hu64) (pe_c C__law_draw hr (by first | decide | omega) (pa_cons (pv 0) (pa_cons pe_int pa_nil))) pe_int (nomark _)) (pw_or1 (pt_cmpR op_ge (pe_callB call_len (by rfl) n_len (by decide +kernel) (pa_cons (pv 7) pa_nil)) pe_int (nomark _))))))))
 (pss_one (ps_expr (pe_bm PySem.F.plainAttrs_list PySem.F.slot_list_pop PySem.F.type_list_pop mt_popAt (pv 7) (pa_cons (pe_c C__law_draw hr (by first | decide | omega) (pa_cons (pv 0) (pa_cons (pe_callB call_len (by rfl) n_len (by decide +kernel) (pa_cons (pv 7) pa_nil)) pa_nil))) pa_nil))))
 (pss_one (ps_expr (pe_bm PySem.F.plainAttrs_list PySem.F.slot_list_insert PySem.F.type_list_insert mt_insert (pv 7) (pa_cons (pe_c C__law_draw hr (by first | decide | omega) (pa_cons (pv 0) (pa_cons (pe_op op_addU (pe_callB call_len (by rfl) n_len (by decide +kernel) (pa_cons (pv 7) pa_nil)) pe_int) pa_nil))) (pa_cons (pe_c C__law_number hr (by first | decide | omega) (pa_cons (pv 0) pa_nil)) pa_nil))))))))
 (pss_one (ps_if (pt_cmpR (op_neU hu64) (pv 5) (pe_lst pa_nil) (nomark _))
 (pss_cons (ps_set (i := 8) sc__law_bent.nd rfl (Or.inl rfl) (pe_c C__law_draw hr (by first | decide | omega) (pa_cons (pv 0) (pa_cons (pe_callB call_len (by rfl) n_len (by decide +kernel) (pa_cons (pv 5) pa_nil)) pa_nil))))
 (pss_cons (ps_asg (pe_ix ix_seq (pv 5) (pv 8) (fun _ _ => rfl)) (pg_tup rfl (pgs_cons (pg_name (i := 9) sc__law_bent.nd rfl (Or.inl rfl)) (pgs_cons (pg_name (i := 10) sc__law_bent.nd rfl (Or.inl rfl)) (pgs_cons (pg_name (i := 11) sc__law_bent.nd rfl (Or.inl rfl)) (pgs_cons (pg_name (i := 12) sc__law_bent.nd rfl (Or.inl rfl)) pgs_nil))))))
 (pss_cons (ps_set (i := 13) sc__law_bent.nd rfl (Or.inl rfl) (pe_ix ix_seq (pe_lst (pa_cons (pe_op op_sub (pe_un un_neg pe_int) (pe_c C__law_draw hr (by first | decide | omega) (pa_cons (pv 0) (pa_cons pe_int pa_nil)))) (pa_cons (pe_op op_addU (pe_callB call_len (by rfl) n_len (by decide +kernel) (pa_cons (pv 4) pa_nil)) (pe_c C__law_draw hr (by first | decide | omega) (pa_cons (pv 0) (pa_cons pe_int pa_nil)))) pa_nil))) (pe_c C__law_draw hr (by first | decide | omega) (pa_cons (pv 0) (pa_cons pe_int pa_nil))) (fun _ _ => rfl)))
 (pss_cons (ps_if (pt_cmpR (op_eqU hu64) (pv 2) pe_int (nomark _))
 (pss_one (ps_set (i := 12) sc__law_bent.nd rfl (Or.inl rfl) (pe_c C__law_wrong_number hr (by first | decide | omega) (pa_cons (pv 0) pa_nil))))
 (pss_one (ps_if (pt_cmpR (op_eqU hu64) (pv 2) pe_int (nomark _))
 (pss_one (ps_set (i := 9) sc__law_bent.nd rfl (Or.inl rfl) (pv 13)))
 (pss_one (ps_if (PW.pt (pw_and (pt_cmpR (op_eqU hu64) (pv 2) pe_int (nomark _)) (pw_and1 (pt_cmpR (op_neU hu64) (pv 3) pe_str (nomark _)))))
 (pss_one (ps_set (i := 10) sc__law_bent.nd rfl (Or.inl rfl) (pe_c C__law_wrong_sign hr (by first | decide | omega) (pa_cons (pv 0) (pa_cons (pv 3) pa_nil)))))
 (pss_one (ps_set (i := 11) sc__law_bent.nd rfl (Or.inl rfl) (pv 13))))))))
 (pss_one (ps_asg (pe_tup (pa_cons (pv 9) (pa_cons (pv 10) (pa_cons (pv 11) (pa_cons (pv 12) pa_nil))))) (pg_sub (pv 5) (pv 8) set_list)))))))
 pss_nil)))))))))
 (pss_one (ps_ret (pe_lst (pa_cons (pv 3) (pa_cons (pv 4) (pa_cons (pv 5) (pa_cons (pv 6) pa_nil))))))))), fun μ ds post exc hl hP => ?_⟩
  obtain ⟨a, g, c, n, z, be, ro, en, kd, rfl, D0, hc, hn, ok, hp⟩ := hP
  walk_at "d0"
  refine gs_mid (fun μ' ρ' => ∃ p1 p2 p3 : Addr, TrioA a g p1 p2 p3 μ ∧ Trio a g p1 p2 p3 c μ μ' be ro en ∧ ρ' = [some (.at a), some (partsD z be ro en), some (.int kd), some (.str z), some (.at p1), some (.at p2), some (.at p3), none, none, none, none, none, none, none]) ?_ ?_
  · walk_at "dx"
    refine cax_listLM isL_lst fun p1 h1 => ?_
    walk_at "dx"
    refine cax_listLM isL_lst fun p2 h2 => ?_
    walk_at "dx"
    refine cax_listLM isL_lst fun p3 h3 => ?_
    obtain ⟨n31, h3'⟩ := mput_none h3
    obtain ⟨n32', h3''⟩ := mput_none h3'
    obtain ⟨n21, h2'⟩ := mput_none h2
    have A : TrioA a g p1 p2 p3 μ := ⟨Ne.symm n21, Ne.symm n32', Ne.symm n31, D0.na h1, D0.na h2', D0.na h3'', h1, h2', h3''⟩
    have T : Trio a g p1 p2 p3 c μ (mput (mput (mput μ p1 (.lst be)) p2 (.lst ro)) p3 (.lst en)) be ro en :=
      ⟨by rw [mput_ne A.n13, mput_ne A.n12, mput_same], by rw [mput_ne A.n23, mput_same], mput_same, ((D0.but A.a1.1 A.a1.2).but A.a2.1 A.a2.2).but A.a3.1 A.a3.2, ((Keep.put h1).new h2').new h3''⟩
    generalize mput (mput (mput μ p1 (.lst be)) p2 (.lst ro)) p3 (.lst en) = μ1 at T
    walk_at "dx"
    exact ⟨p1, p2, p3, A, T, rfl⟩
  rintro μ1 ρ1 ⟨p1, p2, p3, A, T, rfl⟩
  refine gs_mid (fun μ' ρ' => ∃ (z' : Str) (be' ro' en' : List D) (u7 u8 u9 u10 u11 u12 u13 : Option D), ρ' = [some (.at a), some (partsD z be ro en), some (.int kd), some (.str z'), some (.at p1), some (.at p2), some (.at p3), u7, u8, u9, u10, u11, u12, u13] ∧ PartsOk (n + 1) z' be' ro' en' ∧ Trio a g p1 p2 p3 (c + 20) μ μ' be' ro' en') ?_ ?_
  rotate_left
  · rintro μ2 ρ2 ⟨z', be', ro', en', u7, u8, u9, u10, u11, u12, u13, rfl, ok', T'⟩
    refine gs_freeze (p := p1) (i := 4) T'.e1 rfl rfl ?_
    refine gs_freeze (p := p2) (i := 5) ((mcut_ne (Ne.symm A.n12)).trans T'.e2) rfl rfl ?_
    refine gs_freeze (p := p3) (i := 6) ((mcut_ne (Ne.symm A.n23)).trans ((mcut_ne (Ne.symm A.n13)).trans T'.e3)) rfl rfl ?_
    walk_at "dx"
    refine evx_lst ?_
    walk_at "dx"
    exact hp _ _ _ _ _ ok' (((T'.dk.cut A.a1.1 A.a1.2).cut A.a2.1 A.a2.2).cut A.a3.1 A.a3.2) (((T'.Kp.off A.m1 fun b hb => mcut_ne hb).off A.m2 fun b hb => mcut_ne hb).off A.m3 fun b hb => mcut_ne hb)
  have zl : z.cps.toList.length = z.length := Array.length_toList
  have okm : PartsOk (n + 1) z be ro en := ok.mono (by omega)
  refine gs_ifB (fun _ => True) ?_ (fun _ => ?_) (fun _ => ?_)
  · walk_at "dx"
  · -- the signs
    walk_at "dx"
    refine ifN (fun hz => ?_) (fun hz => ?_)
    · have hz1 : 1 ≤ z.length := by
        rcases Nat.eq_zero_or_pos z.length with q | q
        · exfalso
          obtain ⟨⟨l⟩⟩ := z
          have : l = [] := List.eq_nil_of_length_eq_zero q
          exact hz (by rw [this]; rfl)
        · exact q
      walk_at "dx"
      refine ⟨a, g, _, z, rfl, T.dk, by omega, hz1, by have := ok.lz; omega, ok.oz, fun μ2 z' hl' hz' D2 B2 => ?_⟩
      walk_at "dx"
      exact ⟨z', be, ro, en, _, _, _, _, _, _, _, rfl, { okm with oz := hz', lz := by have := ok.lz; omega }, (T.but A D2 B2.keep).mono (by omega)⟩
    · walk_at "dx"
      exact ⟨z, be, ro, en, _, _, _, _, _, _, _, rfl, okm, T.mono (by omega)⟩
  have nb : ∀ d ∈ be, Nice 60 d := fun d hd => (ok.ob d hd).nice 59
  have nr : ∀ d ∈ ro, Nice 60 d := fun d hd => (ok.orr d hd).nice 58
  have ne : ∀ d ∈ en, Nice 60 d := fun d hd => (ok.oe d hd).nice 59
  refine gs_ifB (fun b => b = true → 0 < be.length) ?_ (fun q => ?_) (fun _ => ?_)
  · walk_at "dx"
    refine ifD (fun _ => ?_) (fun _ => ?_)
    · walk_at "dx"
      refine evx_lst ?_
      walk_at "dx"
      refine opx_neNil (real_at T.e1) nb ?_
      walk_at "dx"
      exact fun q => emptyB (by simpa using q)
    · exact ⟨rfl, fun q => nomatch q⟩
  · have hb := q rfl
    walk_at "dx"
    refine ⟨a, g, _, rfl, T.dk, by omega, fun μ2 d hd D2 B2 => ?_⟩
    have T2 := T.but A D2 B2.keep
    refine tgx_sub ?_
    walk_at "dx"
    refine cax_len (n := be.length) ⟨_, T2.e1, rfl⟩ ?_
    walk_at "dx"
    refine ⟨a, g, _, _, rfl, T2.dk, by omega, by omega, small_lt (by omega) (by have := ok.lb; omega), fun μ3 j hj0 hj1 D3 B3 => ?_⟩
    have T3 := T2.but A D3 B3.keep
    exact ⟨p1, be, j, _, rfl, rfl, T3.e1, ix_nat hj0 hj1, z, _, ro, en, _, _, _, _, _, _, _, rfl, { okm with ob := set_all ok.ob hd, lb := by rw [List.length_set]; exact okm.lb }, (T3.put1 A _).mono (by omega)⟩
  refine gs_ifB (fun b => b = true → 0 < en.length) ?_ (fun q => ?_) (fun _ => ?_)
  · walk_at "dx"
    refine ifD (fun _ => ?_) (fun _ => ?_)
    · walk_at "dx"
      refine evx_lst ?_
      walk_at "dx"
      refine opx_neNil (real_at T.e3) ne ?_
      walk_at "dx"
      exact fun q => emptyB (by simpa using q)
    · exact ⟨rfl, fun q => nomatch q⟩
  · have hb := q rfl
    walk_at "dx"
    refine ⟨a, g, _, rfl, T.dk, by omega, fun μ2 d hd D2 B2 => ?_⟩
    have T2 := T.but A D2 B2.keep
    refine tgx_sub ?_
    walk_at "dx"
    refine cax_len (n := en.length) ⟨_, T2.e3, rfl⟩ ?_
    walk_at "dx"
    refine ⟨a, g, _, _, rfl, T2.dk, by omega, by omega, small_lt (by omega) (by have := ok.le; omega), fun μ3 j hj0 hj1 D3 B3 => ?_⟩
    have T3 := T2.but A D3 B3.keep
    exact ⟨p3, en, j, _, rfl, rfl, T3.e3, ix_nat hj0 hj1, z, be, ro, _, _, _, _, _, _, _, _, rfl, { okm with oe := set_all ok.oe hd, le := by rw [List.length_set]; exact okm.le }, (T3.put3 A _).mono (by omega)⟩
  refine gs_ifB (fun b => True) ?_ (fun q => ?_) (fun _ => ?_)
  · walk_at "dx"
  · walk_at "dx"
    refine evx_lst ?_
    walk_at "dx"
    refine ⟨a, g, _, 2, rfl, T.dk, by omega, by decide, by decide, fun μ2 y hy0 hy1 D2 B2 => ?_⟩
    have T2 := T.but A D2 B2.keep
    refine opx_ix (x := .lst _) rfl (pick2 hy0 hy1 _ _) ?_
    have chg : ∃ (p : Addr) (xs : List D), (if y = 0 then D.at p1 else .at p3) = .at p ∧ (∀ c' μ', Trio a g p1 p2 p3 c' μ μ' be ro en → μ' p = some (.lst xs)) ∧ (∀ d ∈ xs, NumOk d) ∧ xs.length ≤ n + 3 ∧
        ∀ c' μ' ys, Trio a g p1 p2 p3 c' μ μ' be ro en → (∀ d ∈ ys, NumOk d) → ys.length ≤ n + 1 + 3 → ∃ be' ro' en', PartsOk (n + 1) z be' ro' en' ∧ Trio a g p1 p2 p3 c' μ (mput μ' p (.lst ys)) be' ro' en' := by
      by_cases h0 : y = 0
      · rw [if_pos h0]
        exact ⟨p1, be, rfl, fun c' μ' t => t.e1, ok.ob, ok.lb, fun c' μ' ys t hy ly => ⟨ys, ro, en, { okm with ob := hy, lb := ly }, t.put1 A ys⟩⟩
      · rw [if_neg h0]
        exact ⟨p3, en, rfl, fun c' μ' t => t.e3, ok.oe, ok.le, fun c' μ' ys t hy ly => ⟨be, ro, ys, { okm with oe := hy, le := ly }, t.put3 A ys⟩⟩
    obtain ⟨p, xs, ep, hpx, hxs, lxs, hput⟩ := chg
    rw [ep]
    walk_at "dn"
    refine gs_ifM (fun m b => Trio a g p1 p2 p3 (c + 5) μ m be ro en ∧ (b = true → 0 < xs.length)) ?_ (fun m q => ?_) (fun m q => ?_)
    · walk_at "dx"
      refine evx_lst ?_
      walk_at "dx"
      refine opx_neNil (real_at (hpx _ _ T2)) (fun d hd => (hxs d hd).nice 59) ?_
      walk_at "dx"
      cases hem : xs.isEmpty with
      | true =>
        refine ifNo rfl ?_
        exact ⟨T2.mono (by omega), fun q => nomatch q⟩
      | false =>
        refine ifY rfl ?_
        walk_at "dx"
        refine ⟨a, g, _, 2, rfl, T2.dk, by omega, by decide, by decide, fun μ3 t _ _ D3 B3 => ?_⟩
        have T3 := (T2.but A D3 B3.keep)
        walk_at "dx"
        refine ifD (fun _ => ?_) (fun _ => ?_)
        · exact ⟨T3.mono (by omega), fun _ => emptyB hem⟩
        · walk_at "dx"
          refine cax_len (n := xs.length) ⟨_, hpx _ _ T3, rfl⟩ ?_
          walk_at "dx"
          exact ⟨T3.mono (by omega), fun _ => emptyB hem⟩
    · obtain ⟨T3, hx0⟩ := q
      have hx0 := hx0 rfl
      walk_at "dx"
      refine evx_popAt ?_
      walk_at "dx"
      refine ⟨p, _, rfl, hpx _ _ T3, ?_⟩
      walk_at "dx"
      refine cax_len (n := xs.length) ⟨_, hpx _ _ T3, rfl⟩ ?_
      walk_at "dx"
      refine ⟨a, g, _, _, rfl, T3.dk, by omega, by omega, small_lt (by omega) (by omega), fun μ4 j hj0 hj1 D4 B4 => ?_⟩
      have T4 := T3.but A D4 B4.keep
      have hk : j.toNat < xs.length := by omega
      obtain ⟨be', ro', en', ok', T5⟩ := hput _ _ (xs.eraseIdx j.toNat) T4 (erase_all hxs) (by have := List.length_eraseIdx_le xs j.toNat; omega)
      exact ⟨xs, j, j.toNat, xs[j.toNat], rfl, hpx _ _ T4, ⟨by omega, by omega⟩, seq_nat hj0 hj1, List.getElem?_eq_getElem hk, z, be', ro', en', _, _, _, _, _, _, _, rfl, ok', T5.mono (by omega)⟩
    · obtain ⟨T3, _⟩ := q
      walk_at "dx"
      refine evx_ins ?_
      walk_at "dx"
      refine ⟨p, _, rfl, hpx _ _ T3, ?_⟩
      walk_at "dx"
      refine cax_len (n := xs.length) ⟨_, hpx _ _ T3, rfl⟩ ?_
      walk_at "dx"
      refine ⟨a, g, _, _, rfl, T3.dk, by omega, by omega, small_lt (by omega) (by omega), fun μ4 j hj0 hj1 D4 B4 => ?_⟩
      have T4 := T3.but A D4 B4.keep
      walk_at "dx"
      refine ⟨a, g, _, rfl, T4.dk, by omega, fun μ5 d hd D5 B5 => ?_⟩
      have T5 := T4.but A D5 B5.keep
      obtain ⟨be', ro', en', ok', T6⟩ := hput _ _ (xs.take j.toNat ++ [d] ++ xs.drop j.toNat) T5 (ins_all hxs hd) (by rw [ins_len]; omega)
      exact ⟨xs, j, rfl, hpx _ _ T5, by omega, ⟨by omega, by omega⟩, z, be', ro', en', _, _, _, _, _, _, _, rfl, ok', T6.mono (by omega)⟩
  refine gs_ifB (fun b => b = true → 0 < ro.length) ?_ (fun q => ?_) (fun _ => ?_)
  · walk_at "dx"
    refine evx_lst ?_
    walk_at "dx"
    refine opx_neNil (real_at T.e2) nr ?_
    walk_at "dx"
    exact fun q => emptyB (by simpa using q)
  · have hr0 := q rfl
    walk_at "dx"
    refine cax_len (n := ro.length) ⟨_, T.e2, rfl⟩ ?_
    walk_at "dx"
    refine ⟨a, g, _, _, rfl, T.dk, by omega, by omega, small_lt (by omega) (by have := ok.lr; omega), fun μ2 j hj0 hj1 D2 B2 => ?_⟩
    have T2 := T.but A D2 B2.keep
    obtain ⟨rd, hrd, hat⟩ := pick_any (ds := ro) hj0 hj1
    obtain ⟨s0, b0, y0, x1, x2, rfl, hs0, hb0, hy0, hx1, hx2⟩ := ok.orr rd hrd
    walk_at "dx"
    refine opx_ixA T2.e2 hat ?_
    walk_at "dx"
    refine evx_lst ?_
    walk_at "dx"
    refine ⟨a, g, _, 9, rfl, T2.dk, by omega, by decide, by decide, fun μ3 f1 hf1 hf1' D3 B3 => ?_⟩
    have T3 := T2.but A D3 B3.keep
    walk_at "dx"
    refine cax_len (n := be.length) ⟨_, T3.e1, rfl⟩ ?_
    walk_at "dx"
    refine ⟨a, g, _, 9, rfl, T3.dk, by omega, by decide, by decide, fun μ4 f2 hf2 hf2' D4 B4 => ?_⟩
    have T4 := T3.but A D4 B4.keep
    walk_at "dx"
    refine ⟨a, g, _, 2, rfl, T4.dk, by omega, by decide, by decide, fun μ5 t ht0 ht1 D5 B5 => ?_⟩
    have T5 := T4.but A D5 B5.keep
    refine opx_ix (x := .lst _) rfl (pick2 ht0 ht1 _ _) ?_
    obtain ⟨far, efar, hfar⟩ : ∃ far : Int, (if t = 0 then D.int (-1 - f1) else .int (be.length + f2)) = .int far ∧ In10 far := by
      have := ok.lb
      split
      · exact ⟨_, rfl, by omega, by omega⟩
      · exact ⟨_, rfl, by omega, by omega⟩
    rw [efar]
    walk_at "dn"
    have T6 : Trio a g p1 p2 p3 (c + 8) μ μ5 be ro en := T5.mono (by omega)
    clear T5 T4 T3 T2 D5 D4 D3 D2 B5 B4 B3 B2
    refine gs_at (fun μ' ρ' => ∃ (s b : Int) (yz : Str) (x y : Int), ρ' = [some (.at a), some (partsD z be ro en), some (.int kd), some (.str z), some (.at p1), some (.at p2), some (.at p3), none, some (.int j), some (.int s), some (.str yz), some (.int b), some (numD x y), some (.int far)] ∧ In10 s ∧ In10 b ∧ TxtOk yz ∧ In10 x ∧ In10 y ∧ Trio a g p1 p2 p3 (c + 15) μ μ' be ro en) ?_ ?_
    rotate_left
    · rintro μ6 ρ6 ⟨s, b, yz, x, y, rfl, hs, hb, hyz, hx, hy, T7⟩
      walk_at "dx"
      refine tgx_sub ?_
      walk_at "dx"
      exact ⟨p2, ro, j, _, rfl, rfl, T7.e2, ix_nat hj0 hj1, z, be, _, en, _, _, _, _, _, _, _, rfl, { okm with orr := set_all ok.orr ⟨s, b, yz, x, y, rfl, hs, hb, hyz, hx, hy⟩, lr := by rw [List.length_set]; exact okm.lr }, (T7.put2 A _).mono (by omega)⟩
    refine gs_ifB (fun _ => True) ?_ (fun _ => ?_) (fun _ => ?_)
    · walk_at "dx"
    · walk_at "dx"
      refine ⟨a, g, _, rfl, T6.dk, by omega, fun μ6 d hd D6 B6 => ?_⟩
      obtain ⟨x, y, rfl, hx, hy⟩ := hd
      walk_at "dx"
      exact ⟨s0, b0, y0, x, y, rfl, hs0, hb0, hy0, hx, hy, (T6.but A D6 B6.keep).mono (by omega)⟩
    refine gs_ifB (fun _ => True) ?_ (fun _ => ?_) (fun _ => ?_)
    · walk_at "dx"
    · walk_at "dx"
      exact ⟨far, b0, y0, x1, x2, rfl, hfar, hb0, hy0, hx1, hx2, T6.mono (by omega)⟩
    refine gs_ifB (fun b => b = true → 1 ≤ z.length) ?_ (fun q => ?_) (fun _ => ?_)
    · walk_at "dx"
      refine ifD (fun _ => ?_) (fun _ => ?_)
      · walk_at "dx"
        intro q
        have hz : ¬ z = Str.ofString "" := by simpa using q
        rcases Nat.eq_zero_or_pos z.length with q | q
        · exfalso
          obtain ⟨⟨l⟩⟩ := z
          have : l = [] := List.eq_nil_of_length_eq_zero q
          exact hz (by rw [this]; rfl)
        · exact q
      · exact ⟨rfl, fun q => nomatch q⟩
    · have hz1 := q rfl
      walk_at "dx"
      refine ⟨a, g, _, z, rfl, T6.dk, by omega, hz1, by have := ok.lz; omega, ok.oz, fun μ6 z' hz' D6 K6 => ?_⟩
      walk_at "dx"
      exact ⟨s0, b0, z', x1, x2, rfl, hs0, hb0, hz', hx1, hx2, (T6.but A D6 K6).mono (by omega)⟩
    · walk_at "dx"
      exact ⟨s0, far, y0, x1, x2, rfl, hs0, hfar, hy0, hx1, hx2, T6.mono (by omega)⟩
  · walk_at "dx"
    exact ⟨z, be, ro, en, _, _, _, _, _, _, _, rfl, okm, T.mono (by omega)⟩
end
theorem eqD_refl {n : Nat} {d : D} (h : Nice n d) : eqD d d = true := PySem.SeqAt.eqv_refl _ h.2.1
theorem al_int (n : Nat) (i : Int) : alD n (.int i) = true := by cases n <;> rfl
theorem al_str (n : Nat) (i : Str) : alD n (.str i) = true := by cases n <;> rfl
theorem al_bl (n : Nat) (i : Bool) : alD n (.bl i) = true := by cases n <;> rfl
theorem al_non (n : Nat) : alD n .non = true := by cases n <;> rfl
theorem al_tup {n : Nat} {ds : List D} (h : ∀ d ∈ ds, alD n d = true) (hl : ds.length ≤ 1000000) : alD (n + 1) (.tup ds) = true := by
  show (ds.all (alD n) && decide (ds.length ≤ 1000000)) = true
  rw [List.all_eq_true.mpr h, decide_eq_true hl]; rfl
theorem al_num {n : Nat} {d : D} (h : NumOk d) : alD (n + 1) d = true := by
  obtain ⟨x, y, rfl, _⟩ := h
  refine al_tup (fun d hd => ?_) (Nat.le_of_ble_eq_true rfl)
  simp only [List.mem_cons, List.not_mem_nil, or_false] at hd
  rcases hd with rfl | rfl <;> exact al_int _ _
theorem al_road {n : Nat} {d : D} (h : RoadOk d) : alD (n + 2) d = true := by
  obtain ⟨s, b, z, x, y, rfl, _, _, _, hx, hy⟩ := h
  refine al_tup (fun d hd => ?_) (Nat.le_of_ble_eq_true rfl)
  simp only [List.mem_cons, List.not_mem_nil, or_false] at hd
  rcases hd with rfl | rfl | rfl | rfl
  · exact al_int _ _
  · exact al_str _ _
  · exact al_int _ _
  · exact al_num ⟨x, y, rfl, hx, hy⟩
theorem al_lst {n : Nat} {ds : List D} (h : ∀ d ∈ ds, alD n d = true) (hl : ds.length ≤ 1000000) : alD (n + 1) (.lst ds) = true := by
  show (ds.all (alD n) && decide (ds.length ≤ 1000000)) = true
  rw [List.all_eq_true.mpr h, decide_eq_true hl]; rfl
theorem al_tup2 {n : Nat} {d e : D} (h : alD n d = true) (h2 : alD n e = true) : alD (n + 1) (.tup [d, e]) = true := by
  show ([d, e].all (alD n) && decide (2 ≤ 1000000)) = true
  rw [List.all_cons, List.all_cons, h, h2]; rfl
theorem al_parts {n : Nat} {z : Str} {be ro en : List D} (h : PartsOk n z be ro en) (hn : n ≤ 19) : alD 4 (partsD z be ro en) = true := by
  have h1 : alD 3 (.lst be) = true := al_lst (fun d hd => al_num (h.ob d hd)) (by have := h.lb; omega)
  have h2 : alD 3 (.lst ro) = true := al_lst (fun d hd => al_road (h.orr d hd)) (by have := h.lr; omega)
  have h3 : alD 3 (.lst en) = true := al_lst (fun d hd => al_num (h.oe d hd)) (by have := h.le; omega)
  show ([D.str z, .lst be, .lst ro, .lst en].all (alD 3) && decide (4 ≤ 1000000)) = true
  rw [List.all_cons, List.all_cons, List.all_cons, List.all_cons, h1, h2, h3]; rfl
theorem dueM_val {n : Nat} {z : Str} {be ro en : List D} {k : Nat} {d : D} (h : PartsOk n z be ro en) (hn : n ≤ 19) (e : dueM z be ro en = some (k, d)) : alD 3 d = true := by
  unfold dueM at e
  have fnd : ∀ {l : List D} {d : D}, (∀ d ∈ l, NumOk d) → l.find? numBad = some d → alD 3 d = true := fun hl hd => al_num (hl _ (List.mem_of_find?_eq_some hd))
  split at e
  · cases e; rfl
  split at e
  next h1 => cases e; exact fnd h.ob h1
  split at e
  next h2 =>
    cases e
    refine fnd (fun d hd => ?_) h2
    obtain ⟨r, hr, rfl⟩ := List.mem_map.mp hd
    obtain ⟨s, b, y, x1, x2, rfl, _, _, _, h4, h5⟩ := h.orr r hr
    exact ⟨x1, x2, rfl, h4, h5⟩
  split at e
  next h3 => cases e; exact fnd h.oe h3
  split at e
  next e' he =>
    cases e
    obtain ⟨r, hr, hb⟩ := List.exists_of_findSome?_eq_some he
    obtain ⟨s, b, y, x1, x2, rfl, _⟩ := h.orr r hr
    unfold roadBad at hb
    dsimp only at hb
    split at hb
    · cases hb; rfl
    · split at hb
      · cases hb; rfl
      · split at hb
        · cases hb; rfl
        · exact nomatch hb
  split at e
  · cases e
    exact al_lst (fun d hd => al_num (h.oe d hd)) (by have := h.le; omega)
  · exact nomatch e
theorem al_due {n : Nat} {z : Str} {be ro en : List D} (h : PartsOk n z be ro en) (hn : n ≤ 19) : alD 4 (dueD (dueM z be ro en)) = true := by
  cases e : dueM z be ro en with
  | none => rfl
  | some p =>
    obtain ⟨k, d⟩ := p
    have hv := dueM_val h hn e
    rcases dueM_some e with rfl | rfl | rfl | rfl <;> exact al_tup2 rfl hv
theorem PartsOk.nice {n : Nat} {z : Str} {be ro en : List D} (h : PartsOk n z be ro en) : Nice 64 (partsD z be ro en) := by
  refine (nice_lst (n := 3) fun d hd => ?_).mono (by decide)
  simp only [List.mem_cons, List.not_mem_nil, or_false] at hd
  rcases hd with rfl | rfl | rfl | rfl
  · exact nice_str _ h.oz.can
  · exact nice_lst fun d hd => (h.ob d hd).nice 1
  · exact nice_lst fun d hd => (h.orr d hd).nice 0
  · exact nice_lst fun d hd => (h.oe d hd).nice 1
def P_right : PD := fun μ ds post _ => ∃ (a g : Addr) (c : Int) (n : Nat) (z : Str) (be ro en : List D), ds = [.at a, partsD z be ro en] ∧ Deck a g c μ ∧ c ≤ 900000 ∧ n ≤ 19 ∧ PartsOk n z be ro en ∧
  ∀ μ', Deck a g (c + 2) μ' → Keep a g μ μ' → post μ' (.bl true)
section
variable {P : Program} {w : World} {K : PySem.W.Frag} {mg : Str → Option Value} {base : Heap} {A_Machine : Addr}
theorem c_right (h : Std K mg "_law_is_right" s__law_is_right) (n_len : mg "len" = none) (n_list : mg "list" = none) (n_isinstance : mg "isinstance" = none) (Cm_Machine : mg "Machine" = some (.ref A_Machine)) (Cl_Machine : Cls K A_Machine) (G : ClsG K)
    (ha : PySem.W.findIn K (.ref A_Machine) "__class__" = some (some (.builtin "object.__class__"))) (hm : PySem.W.mroIn K A_Machine (.type "object") = some true)
    (C__law_draw : Cal P w K mg base CX0 1 "_law_draw" s__law_draw ["_law_deck_here", "_law_limit"] (spD K 2 P_draw)) (C__law_due : Cal P w K mg base CX0 2 "_law_due" s__law_due ["_law_parts"] (spD K 1 P_due)) (C__law_told : Cal P w K mg base CX0 7 "_law_told" s__law_told ["_law_parts", "_law_by_name"] (spD K 2 (P_told A_Machine))) (C__law_alike : Cal P w K mg base CX0 5 "_law_alike" s__law_alike ["_law_found", "_law_due_here"] (spD K 2 (P_alike 5)))
    (Pr_Machine_signs : Prp P w K mg base 1 A_Machine "signs" (spD K 1 (P_mget A_Machine 0))) (Pr_Machine_begin : Prp P w K mg base 1 A_Machine "begin" (spD K 1 (P_mget A_Machine 1)))
    (Pr_Machine_roads : Prp P w K mg base 1 A_Machine "roads" (spD K 1 (P_mget A_Machine 2))) (Pr_Machine_end : Prp P w K mg base 1 A_Machine "end" (spD K 1 (P_mget A_Machine 3)))
    (Me_Machine___len__ : Met P w K mg base CX0 1 A_Machine "__len__" ["self"] (spD K 1 (P_mlen A_Machine))) : Cal P w K mg base CX0 8 "_law_is_right" s__law_is_right ["_law_deck_here", "_law_parts"] (spD K 2 P_right) := by
  refine cal0 h sc__law_is_right (fun _ _ _ _ _ _ us hl => match us, hl with | [_, _], _ => rfl) fun f cdv A outer s H E hr => ⟨_,
    have hu64 := hr.units; (pss_cons (ps_set (i := 2) sc__law_is_right.nd rfl (Or.inl rfl) (pe_lst (pa_cons (pe_ix ix_seq (pv 1) pe_int (fun _ _ => rfl)) (pa_cons (pe_callTy call_list_of (by rfl) n_list (by decide +kernel) (pa_cons (pe_ix ix_seq (pv 1) pe_int (fun _ _ => rfl)) pa_nil)) (pa_cons (pe_callTy call_list_of (by rfl) n_list (by decide +kernel) (pa_cons (pe_ix ix_seq (pv 1) pe_int (fun _ _ => rfl)) pa_nil)) (pa_cons (pe_callTy call_list_of (by rfl) n_list (by decide +kernel) (pa_cons (pe_ix ix_seq (pv 1) pe_int (fun _ _ => rfl)) pa_nil)) pa_nil))))))
 (pss_cons (ps_set (i := 3) sc__law_is_right.nd rfl (Or.inl rfl) (pe_c C__law_due hr (by first | decide | omega) (pa_cons (pv 1) pa_nil)))
 (pss_cons (ps_asg (pe_c C__law_told hr (by first | decide | omega) (pa_cons (pv 2) (pa_cons (pe_cmpR (op_eqU hu64) (pe_c C__law_draw hr (by first | decide | omega) (pa_cons (pv 0) (pa_cons pe_int pa_nil))) pe_int (nomark _)) pa_nil))) (pg_tup rfl (pgs_cons (pg_name (i := 4) sc__law_is_right.nd rfl (Or.inl rfl)) (pgs_cons (pg_name (i := 5) sc__law_is_right.nd rfl (Or.inl rfl)) pgs_nil))))
 (pss_cons (ps_if (PW.pt (pw_or (pt_cmpR (op_neU hu64) (pv 2) (pv 1) (nomark _)) (pw_or1 (pt_not (pt_val (pe_c C__law_alike hr (by first | decide | omega) (pa_cons (pv 5) (pa_cons (pv 3) pa_nil))))))))
 (pss_one (ps_ret pe_bl))
 pss_nil)
 (pss_cons (ps_if (pt_cmp (pc_notN (pv 3)))
 (pss_one (ps_ret pe_bl))
 pss_nil)
 (pss_cons (ps_set (i := 6) sc__law_is_right.nd rfl (Or.inl rfl) (pe_lst (pa_cons (pe_prp (pv 4) Cl_Machine Pr_Machine_signs hr (by decide)) (pa_cons (pe_prp (pv 4) Cl_Machine Pr_Machine_begin hr (by decide)) (pa_cons (pe_prp (pv 4) Cl_Machine Pr_Machine_roads hr (by decide)) (pa_cons (pe_prp (pv 4) Cl_Machine Pr_Machine_end hr (by decide)) pa_nil))))))
 (pss_one (ps_ret (pe_and (pe_c C__law_alike hr (by first | decide | omega) (pa_cons (pv 6) (pa_cons (pv 1) pa_nil))) (pe_and (pe_callB call_isU (by rfl) n_isinstance (by decide +kernel) (pa_cons (pv 4) (pa_cons (pe_glob (v := .ref A_Machine) rfl Cm_Machine rfl) pa_nil))) (pe_one (pe_c C__law_alike hr (by first | decide | omega) (pa_cons (pe_callB (call_lenC Me_Machine___len__ hr (by decide)) (by rfl) n_len (by decide +kernel) (pa_cons (pv 4) pa_nil)) (pa_cons (pe_callB call_len (by rfl) n_len (by decide +kernel) (pa_cons (pe_ix ix_seq (pv 1) pe_int (fun _ _ => rfl)) pa_nil)) pa_nil)))))))))))))), fun μ ds post exc hl hP => ?_⟩
  obtain ⟨a, g, c, n, z, be, ro, en, rfl, D0, hc, hn, ok, hp⟩ := hP
  have lz := ok.lz
  have lb := ok.lb
  have lr := ok.lr
  have le := ok.le
  walk_at "d0"
  walk_at "dx"
  refine evx_lst ?_
  walk_at "dx"
  refine cax_listL isL_lst ?_
  walk_at "dx"
  refine cax_listL isL_lst ?_
  walk_at "dx"
  refine cax_listL isL_lst ?_
  walk_at "dx"
  refine ⟨z, be, ro, en, rfl, ok.ob, ok.orr, ok.oe, by omega, by omega, by omega, by omega, ?_⟩
  walk_at "dx"
  refine ⟨a, g, c, 3, rfl, D0, by omega, by decide, by decide, fun μ1 y _ _ D1 B1 => ?_⟩
  walk_at "dx"
  refine ⟨z, be, ro, en, _, rfl, ok.ob, ok.orr, ok.oe, by omega, by omega, by omega, ?_⟩
  have hal := al_due ok hn
  unfold toldD
  cases hd : dueM z be ro en with
  | none =>
    walk_at "dx"
    refine opx_neN ok.nice ok.nice ?_
    rw [show eqD (seeD μ1 (.lst [.str z, .lst be, .lst ro, .lst en])) (seeD μ1 (partsD z be ro en)) = true from eqD_refl (n := 64) ok.nice]
    walk_at "dz"
    refine ⟨_, rfl, rfl, ?_⟩
    walk_at "dz"
    refine evx_lst ?_
    walk_at "dz"
    refine evx_prp ?_
    walk_at "dz"
    refine ⟨⟨_, _, .inl rfl⟩, z, be, ro, en, _, rfl, rfl, ?_⟩
    walk_at "dz"
    refine evx_prp ?_
    walk_at "dz"
    refine ⟨⟨_, _, .inl rfl⟩, z, be, ro, en, _, rfl, rfl, ?_⟩
    walk_at "dz"
    refine evx_prp ?_
    walk_at "dz"
    refine ⟨⟨_, _, .inl rfl⟩, z, be, ro, en, _, rfl, rfl, ?_⟩
    walk_at "dz"
    refine evx_prp ?_
    walk_at "dz"
    refine ⟨⟨_, _, .inl rfl⟩, z, be, ro, en, _, rfl, rfl, ?_⟩
    walk_at "dz"
    refine ⟨_, rfl, al_parts ok hn, ?_⟩
    walk_at "dz"
    refine cax_isO ⟨_, _, .inl rfl⟩ Cl_Machine ha G hm kit_self ?_
    walk_at "dz"
    refine cax_lenO ⟨_, _, .inl rfl⟩ ⟨z, be, ro, en, rfl, be.length, rfl, by omega, ?_⟩
    walk_at "dz"
    refine ⟨_, rfl, rfl, ?_⟩
    walk_at "dz"
    exact hp _ (D1.mono (by omega)) B1.keep
  | some e =>
    rw [hd] at hal
    have hne : isNon (dueD (some e)) = false := by
      obtain ⟨k, d⟩ := e
      rcases dueM_some hd with rfl | rfl | rfl | rfl <;> rfl
    walk_at "dx"
    refine opx_neN ok.nice ok.nice ?_
    rw [show eqD (seeD μ1 (.lst [.str z, .lst be, .lst ro, .lst en])) (seeD μ1 (partsD z be ro en)) = true from eqD_refl (n := 64) ok.nice]
    walk_at "dz"
    refine ⟨_, rfl, hal, ?_⟩
    walk_at "dz"
    rw [hne]
    walk_at "dz"
    exact hp _ (D1.mono (by omega)) B1.keep
end
def P_law : PD := fun μ ds post _ => ∃ ns : List Int, ds = [.frz (ns.map D.int)] ∧ ns.length ≤ 63 ∧ (∀ n ∈ ns, n.natAbs < 2 ^ 1048576) ∧ ∀ μ', post μ' (.bl true)
theorem parts_drawn {z : Str} {be ro en : List D} (hz : Signs z) (b1 : ∀ d ∈ be, NumOk d) (b2 : ∀ d ∈ ro, RoadOk d) (b3 : ∀ d ∈ en, NumOk d) (l1 : be.length ≤ 6) (l2 : en.length = be.length) (l3 : ro.length ≤ 24) : PartsOk 3 z be ro en := by
  have zl : z.cps.toList.length = z.length := Array.length_toList
  refine ⟨fun c hc => ?_, by have := hz.2.2.2; omega, b1, b2, b3, by omega, l3, by omega⟩
  have h := hz.2.1 c hc
  refine List.mem_append_left _ ?_
  have key : ∀ k : Nat, 97 ≤ k → k ≤ 122 → k ∈ letters := by
    intro k h1 h2
    have hh : ∀ j : Fin 26, (97 + j.val) ∈ letters := by decide +kernel
    have := hh ⟨k - 97, by omega⟩
    rwa [show 97 + (k - 97) = k by omega] at this
  exact key c h.1 h.2
section
variable {P : Program} {w : World} {K : PySem.W.Frag} {mg : Str → Option Value} {base : Heap}
theorem c_law (h : Std K mg "law" s_law) (n_range : mg "range" = none) (C__law_deck : Cal P w K mg base CX0 1 "_law_deck" s__law_deck ["_law_script"] (spD K 1 P_deck)) (C__law_draw : Cal P w K mg base CX0 1 "_law_draw" s__law_draw ["_law_deck_here", "_law_limit"] (spD K 2 P_draw)) (C__law_machine : Cal P w K mg base CX0 4 "_law_machine" s__law_machine ["_law_deck_here"] (spD K 1 P_machine)) (C__law_bent : Cal P w K mg base CX0 4 "_law_bent" s__law_bent ["_law_deck_here", "_law_parts", "_law_kind"] (spD K 3 P_bent)) (C__law_is_right : Cal P w K mg base CX0 8 "_law_is_right" s__law_is_right ["_law_deck_here", "_law_parts"] (spD K 2 P_right)) : Cal P w K mg base CX0 9 "law" s_law ["_law_script"] (spD K 1 P_law) := by
  refine cal0 h sc_law (fun _ _ _ _ _ _ us hl => match us, hl with | [_], _ => rfl) fun f cdv A outer s H E hr => ⟨_,
    have hu64 := hr.units; (pss_cons (ps_set (i := 1) sc_law.nd rfl (Or.inl rfl) (pe_c C__law_deck hr (by first | decide | omega) (pa_cons (pv 0) pa_nil)))
 (pss_cons (ps_for PassesOwn.never rfl (pi_range1 rfl n_range (pa_cons pe_int pa_nil)) (pg_name (i := 2) sc_law.nd rfl (Or.inl rfl))
 (pss_cons (ps_set (i := 3) sc_law.nd rfl (Or.inl rfl) (pe_c C__law_machine hr (by first | decide | omega) (pa_cons (pv 1) pa_nil)))
 (pss_cons (ps_set (i := 4) sc_law.nd rfl (Or.inl rfl) (pv 3))
 (pss_cons (ps_for PassesOwn.never rfl (pi_range1 rfl n_range (pa_cons (pe_ix ix_seq (pe_lst (pa_cons pe_int (pa_cons pe_int (pa_cons pe_int (pa_cons pe_int pa_nil))))) (pe_c C__law_draw hr (by first | decide | omega) (pa_cons (pv 1) (pa_cons pe_int pa_nil))) (fun _ _ => rfl)) pa_nil)) (pg_name (i := 5) sc_law.nd rfl (Or.inl rfl))
 (pss_one (ps_set (i := 4) sc_law.nd rfl (Or.inl rfl) (pe_c C__law_bent hr (by first | decide | omega) (pa_cons (pv 1) (pa_cons (pv 4) (pa_cons (pe_c C__law_draw hr (by first | decide | omega) (pa_cons (pv 1) (pa_cons pe_int pa_nil))) pa_nil)))))))
 (pss_one (ps_if (PW.pt (pw_or (pt_not (pt_val (pe_c C__law_is_right hr (by first | decide | omega) (pa_cons (pv 1) (pa_cons (pv 4) pa_nil))))) (pw_or1 (pt_not (pt_val (pe_c C__law_is_right hr (by first | decide | omega) (pa_cons (pv 1) (pa_cons (pv 3) pa_nil))))))))
 (pss_one (ps_ret pe_bl))
 pss_nil))))))
 (pss_one (ps_ret pe_bl)))), fun μ ds post exc hl hP => ?_⟩
  obtain ⟨ns, rfl, hn63, hbits, hp⟩ := hP
  walk_at "d0"
  walk_at "dx"
  refine ⟨ns, rfl, hn63, hbits, fun μ1 a g D1 _ _ _ => ?_⟩
  walk_at "dx"
  refine gs_for (itx_range1 ?_)
  walk_at "dx"
  refine ⟨⟨by omega, by omega⟩, ?_⟩
  refine ⟨fun i μ' ρ' => ∃ (u2 u3 u4 u5 : Option D), ρ' = [some (.frz (ns.map D.int)), some (.at a), u2, u3, u4, u5] ∧ Deck a g (2000 * i) μ', ⟨_, _, _, _, rfl, D1.mono (by omega)⟩, fun _ _ _ _ _ => True.intro, ?_, ?_⟩
  · rintro i d μ2 ρ2 hd ⟨u2, u3, u4, u5, rfl, D2⟩
    obtain ⟨hi, rfl⟩ := rangeD_get hd
    have hi6 : i < 6 := hi
    walk_at "dx"
    refine ⟨a, g, _, rfl, D2, by omega, fun μ3 z be ro en hz b1 b2 b3 l1 l2 l3 D3 K3 => ?_⟩
    have ok := parts_drawn hz b1 b2 b3 l1 l2 l3
    walk_at "dx"
    refine gs_for (itx_range1 ?_)
    walk_at "dx"
    refine evx_lst ?_
    walk_at "dx"
    refine ⟨a, g, _, 4, rfl, D3, by omega, by decide, by decide, fun μ4 y hy0 hy1 D4 B4 => ?_⟩
    refine opx_ix (x := .lst _) rfl (pick4 hy0 hy1 _ _ _ _) ?_
    obtain ⟨m, em, hm⟩ : ∃ m : Nat, (if y = 0 then D.int 1 else if y = 1 then .int 2 else if y = 2 then .int 3 else .int 0) = .int m ∧ m ≤ 3 := by
      split
      · exact ⟨1, rfl, by decide⟩
      · split
        · exact ⟨2, rfl, by decide⟩
        · split
          · exact ⟨3, rfl, by decide⟩
          · exact ⟨0, rfl, by decide⟩
    rw [em]
    walk_at "dx"
    refine ⟨⟨by omega, by omega⟩, ?_⟩
    refine ⟨fun j μ' ρ' => ∃ (z' : Str) (be' ro' en' : List D) (w5 : Option D), ρ' = [some (.frz (ns.map D.int)), some (.at a), some (.int (0 + i)), some (partsD z be ro en), some (partsD z' be' ro' en'), w5] ∧ PartsOk (3 + j) z' be' ro' en' ∧ Deck a g (2000 * i + 1001 + 30 * j) μ', ⟨z, be, ro, en, _, rfl, ok, D4.mono (by omega)⟩, fun _ _ _ _ _ => True.intro, ?_, ?_⟩
    · rintro j d μ5 ρ5 hd5 ⟨z', be', ro', en', w5, rfl, ok', D5⟩
      obtain ⟨hj, rfl⟩ := rangeD_get hd5
      have hj3 : j < 3 := by omega
      walk_at "dx"
      refine ⟨a, g, _, 8, rfl, D5, by omega, by decide, by decide, fun μ6 kd _ _ D6 B6 => ?_⟩
      walk_at "dx"
      refine ⟨a, g, _, 3 + j, z', be', ro', en', kd, rfl, D6, by omega, by omega, ok', fun μ7 z2 be2 ro2 en2 ok2 D7 K7 => ?_⟩
      walk_at "dx"
      exact ⟨z2, be2, ro2, en2, _, rfl, ok2.mono (by omega), D7.mono (by omega)⟩
    · rintro μ5 ρ5 ⟨z', be', ro', en', w5, rfl, ok', D5⟩
      rw [rangeD_len] at ok' D5
      have hm3 : (m : Int).toNat ≤ 3 := by omega
      have D5' : Deck a g (2000 * i + 1200) μ5 := D5.mono (by omega)
      clear D5
      walk_at "dx"
      refine ⟨a, g, _, _, z', be', ro', en', rfl, D5', by omega, by omega, ok', fun μ6 D6 K6 => ?_⟩
      walk_at "dz"
      refine ⟨a, g, _, _, z, be, ro, en, rfl, D6, by omega, by decide, ok, fun μ7 D7 K7 => ?_⟩
      walk_at "dz"
      exact ⟨_, _, _, _, rfl, D7.mono (by omega)⟩
  · rintro μ2 ρ2 ⟨u2, u3, u4, u5, rfl, D2⟩
    walk_at "dx"
    exact hp _
end
theorem law_end : ∀ ns : List Int, ns.length ≤ 63 → (∀ n ∈ ns, n.natAbs < 2 ^ 1048576) → P_law (fun _ => none) [.frz (ns.map D.int)] (fun _ d => d = .bl true) excN := fun ns hl hb => ⟨ns, rfl, hl, hb, fun _ => rfl⟩
theorem all_mk {P : Program} {w : World} {K : PySem.W.Frag} {h : Heap} {mg : Str → Option Value} {fa : Addr} (X : K.In h) (G : h.Ns mainGlobals mg) (hfa : mg "law" = some (.ref fa))
  {f__wall : Addr} {od__wall an__wall : Option Addr} {sl__wall : Array (Option Value)} {oc__wall kV__wall dc__wall pm__wall cd__wall ct__wall : Value}
  {f_lowest : Addr} {od_lowest an_lowest : Option Addr} {sl_lowest : Array (Option Value)} {oc_lowest kV_lowest dc_lowest pm_lowest cd_lowest ct_lowest : Value}
  {f_is_number : Addr} {od_is_number an_is_number : Option Addr} {sl_is_number : Array (Option Value)} {oc_is_number kV_is_number dc_is_number pm_is_number cd_is_number ct_is_number : Value}
  {f_checked : Addr} {od_checked an_checked : Option Addr} {sl_checked : Array (Option Value)} {oc_checked kV_checked dc_checked pm_checked cd_checked ct_checked : Value}
  {f_integers_of : Addr} {od_integers_of an_integers_of : Option Addr} {sl_integers_of : Array (Option Value)} {oc_integers_of kV_integers_of dc_integers_of pm_integers_of cd_integers_of ct_integers_of : Value}
  {f_checked_signs : Addr} {od_checked_signs an_checked_signs : Option Addr} {sl_checked_signs : Array (Option Value)} {oc_checked_signs kV_checked_signs dc_checked_signs pm_checked_signs cd_checked_signs ct_checked_signs : Value}
  {f_checked_sign : Addr} {od_checked_sign an_checked_sign : Option Addr} {sl_checked_sign : Array (Option Value)} {oc_checked_sign kV_checked_sign dc_checked_sign pm_checked_sign cd_checked_sign ct_checked_sign : Value}
  {f_known : Addr} {od_known an_known : Option Addr} {sl_known : Array (Option Value)} {oc_known kV_known dc_known pm_known cd_known ct_known : Value}
  {f_checked_machine : Addr} {od_checked_machine an_checked_machine : Option Addr} {sl_checked_machine : Array (Option Value)} {oc_checked_machine kV_checked_machine dc_checked_machine pm_checked_machine cd_checked_machine ct_checked_machine : Value}
  {f_steps_of : Addr} {od_steps_of an_steps_of : Option Addr} {sl_steps_of : Array (Option Value)} {oc_steps_of kV_steps_of dc_steps_of pm_steps_of cd_steps_of ct_steps_of : Value}
  {f_integers_behind : Addr} {od_integers_behind an_integers_behind : Option Addr} {sl_integers_behind : Array (Option Value)} {oc_integers_behind kV_integers_behind dc_integers_behind pm_integers_behind cd_integers_behind ct_integers_behind : Value}
  {f__law_deck : Addr} {od__law_deck an__law_deck : Option Addr} {sl__law_deck : Array (Option Value)} {oc__law_deck kV__law_deck dc__law_deck pm__law_deck cd__law_deck ct__law_deck : Value}
  {f__law_draw : Addr} {od__law_draw an__law_draw : Option Addr} {sl__law_draw : Array (Option Value)} {oc__law_draw kV__law_draw dc__law_draw pm__law_draw cd__law_draw ct__law_draw : Value}
  {f__law_gcd : Addr} {od__law_gcd an__law_gcd : Option Addr} {sl__law_gcd : Array (Option Value)} {oc__law_gcd kV__law_gcd dc__law_gcd pm__law_gcd cd__law_gcd ct__law_gcd : Value}
  {f__law_pair : Addr} {od__law_pair an__law_pair : Option Addr} {sl__law_pair : Array (Option Value)} {oc__law_pair kV__law_pair dc__law_pair pm__law_pair cd__law_pair ct__law_pair : Value}
  {f__law_alike : Addr} {od__law_alike an__law_alike : Option Addr} {sl__law_alike : Array (Option Value)} {oc__law_alike kV__law_alike dc__law_alike pm__law_alike cd__law_alike ct__law_alike : Value}
  {f__law_signs : Addr} {od__law_signs an__law_signs : Option Addr} {sl__law_signs : Array (Option Value)} {oc__law_signs kV__law_signs dc__law_signs pm__law_signs cd__law_signs ct__law_signs : Value}
  {f__law_number : Addr} {od__law_number an__law_number : Option Addr} {sl__law_number : Array (Option Value)} {oc__law_number kV__law_number dc__law_number pm__law_number cd__law_number ct__law_number : Value}
  {f__law_machine : Addr} {od__law_machine an__law_machine : Option Addr} {sl__law_machine : Array (Option Value)} {oc__law_machine kV__law_machine dc__law_machine pm__law_machine cd__law_machine ct__law_machine : Value}
  {f__law_wrong_signs : Addr} {od__law_wrong_signs an__law_wrong_signs : Option Addr} {sl__law_wrong_signs : Array (Option Value)} {oc__law_wrong_signs kV__law_wrong_signs dc__law_wrong_signs pm__law_wrong_signs cd__law_wrong_signs ct__law_wrong_signs : Value}
  {f__law_wrong_number : Addr} {od__law_wrong_number an__law_wrong_number : Option Addr} {sl__law_wrong_number : Array (Option Value)} {oc__law_wrong_number kV__law_wrong_number dc__law_wrong_number pm__law_wrong_number cd__law_wrong_number ct__law_wrong_number : Value}
  {f__law_wrong_sign : Addr} {od__law_wrong_sign an__law_wrong_sign : Option Addr} {sl__law_wrong_sign : Array (Option Value)} {oc__law_wrong_sign kV__law_wrong_sign dc__law_wrong_sign pm__law_wrong_sign cd__law_wrong_sign ct__law_wrong_sign : Value}
  {f__law_bent : Addr} {od__law_bent an__law_bent : Option Addr} {sl__law_bent : Array (Option Value)} {oc__law_bent kV__law_bent dc__law_bent pm__law_bent cd__law_bent ct__law_bent : Value}
  {f__law_are_signs : Addr} {od__law_are_signs an__law_are_signs : Option Addr} {sl__law_are_signs : Array (Option Value)} {oc__law_are_signs kV__law_are_signs dc__law_are_signs pm__law_are_signs cd__law_are_signs ct__law_are_signs : Value}
  {f__law_due : Addr} {od__law_due an__law_due : Option Addr} {sl__law_due : Array (Option Value)} {oc__law_due kV__law_due dc__law_due pm__law_due cd__law_due ct__law_due : Value}
  {f__law_told : Addr} {od__law_told an__law_told : Option Addr} {sl__law_told : Array (Option Value)} {oc__law_told kV__law_told dc__law_told pm__law_told cd__law_told ct__law_told : Value}
  {f__law_is_right : Addr} {od__law_is_right an__law_is_right : Option Addr} {sl__law_is_right : Array (Option Value)} {oc__law_is_right kV__law_is_right dc__law_is_right pm__law_is_right cd__law_is_right ct__law_is_right : Value}
  {f_law : Addr} {od_law an_law : Option Addr} {sl_law : Array (Option Value)} {oc_law kV_law dc_law pm_law cd_law ct_law : Value}
  {tLE : Tok} {fI : Addr} {odI anI : Option Addr} {slI : Array (Option Value)} {ocI kVI dcI pmI cdI ctI : Value}
  {A_WorthError : Addr} {nm_WorthError qn_WorthError : Str} {N_WorthError : Addr} {bs_WorthError bm_WorthError : List Value} {sn_WorthError : List Str} {sub_WorthError : List Value} {ab_WorthError : Bool} {col_WorthError : Option Bool} {dd_WorthError : Option Addr} {m0_WorthError m1_WorthError m2_WorthError m3_WorthError m5_WorthError : Option Value}
  {A_InvalidNumber : Addr} {nm_InvalidNumber qn_InvalidNumber : Str} {N_InvalidNumber : Addr} {bs_InvalidNumber bm_InvalidNumber : List Value} {sn_InvalidNumber : List Str} {sub_InvalidNumber : List Value} {ab_InvalidNumber : Bool} {col_InvalidNumber : Option Bool} {dd_InvalidNumber : Option Addr} {m0_InvalidNumber m1_InvalidNumber m2_InvalidNumber m3_InvalidNumber m5_InvalidNumber : Option Value}
  {A_InvalidSigns : Addr} {nm_InvalidSigns qn_InvalidSigns : Str} {N_InvalidSigns : Addr} {bs_InvalidSigns bm_InvalidSigns : List Value} {sn_InvalidSigns : List Str} {sub_InvalidSigns : List Value} {ab_InvalidSigns : Bool} {col_InvalidSigns : Option Bool} {dd_InvalidSigns : Option Addr} {m0_InvalidSigns m1_InvalidSigns m2_InvalidSigns m3_InvalidSigns m5_InvalidSigns : Option Value}
  {A_UnknownSign : Addr} {nm_UnknownSign qn_UnknownSign : Str} {N_UnknownSign : Addr} {bs_UnknownSign bm_UnknownSign : List Value} {sn_UnknownSign : List Str} {sub_UnknownSign : List Value} {ab_UnknownSign : Bool} {col_UnknownSign : Option Bool} {dd_UnknownSign : Option Addr} {m0_UnknownSign m1_UnknownSign m2_UnknownSign m3_UnknownSign m5_UnknownSign : Option Value}
  {A_InvalidMachine : Addr} {nm_InvalidMachine qn_InvalidMachine : Str} {N_InvalidMachine : Addr} {bs_InvalidMachine bm_InvalidMachine : List Value} {sn_InvalidMachine : List Str} {sub_InvalidMachine : List Value} {ab_InvalidMachine : Bool} {col_InvalidMachine : Option Bool} {dd_InvalidMachine : Option Addr} {m0_InvalidMachine m1_InvalidMachine m2_InvalidMachine m3_InvalidMachine m5_InvalidMachine : Option Value}
  {A_UnlikeSigns : Addr} {nm_UnlikeSigns qn_UnlikeSigns : Str} {N_UnlikeSigns : Addr} {bs_UnlikeSigns bm_UnlikeSigns : List Value} {sn_UnlikeSigns : List Str} {sub_UnlikeSigns : List Value} {ab_UnlikeSigns : Bool} {col_UnlikeSigns : Option Bool} {dd_UnlikeSigns : Option Addr} {m0_UnlikeSigns m1_UnlikeSigns m2_UnlikeSigns m3_UnlikeSigns m5_UnlikeSigns : Option Value}
  {A_Machine : Addr}
  {f_Machine___init__ : Addr} {od_Machine___init__ an_Machine___init__ : Option Addr} {sl_Machine___init__ : Array (Option Value)} {oc_Machine___init__ kV_Machine___init__ dc_Machine___init__ pm_Machine___init__ cd_Machine___init__ ct_Machine___init__ : Value}
  {f_Machine___len__ : Addr} {od_Machine___len__ an_Machine___len__ : Option Addr} {sl_Machine___len__ : Array (Option Value)} {oc_Machine___len__ kV_Machine___len__ dc_Machine___len__ pm_Machine___len__ cd_Machine___len__ ct_Machine___len__ : Value}
  {f_Machine_signs : Addr} {od_Machine_signs an_Machine_signs : Option Addr} {sl_Machine_signs : Array (Option Value)} {oc_Machine_signs kV_Machine_signs dc_Machine_signs pm_Machine_signs cd_Machine_signs ct_Machine_signs : Value}
  {p_Machine_signs : Addr} {rs_Machine_signs : List Value}
  {f_Machine_begin : Addr} {od_Machine_begin an_Machine_begin : Option Addr} {sl_Machine_begin : Array (Option Value)} {oc_Machine_begin kV_Machine_begin dc_Machine_begin pm_Machine_begin cd_Machine_begin ct_Machine_begin : Value}
  {p_Machine_begin : Addr} {rs_Machine_begin : List Value}
  {f_Machine_roads : Addr} {od_Machine_roads an_Machine_roads : Option Addr} {sl_Machine_roads : Array (Option Value)} {oc_Machine_roads kV_Machine_roads dc_Machine_roads pm_Machine_roads cd_Machine_roads ct_Machine_roads : Value}
  {p_Machine_roads : Addr} {rs_Machine_roads : List Value}
  {f_Machine_end : Addr} {od_Machine_end an_Machine_end : Option Addr} {sl_Machine_end : Array (Option Value)} {oc_Machine_end kV_Machine_end dc_Machine_end pm_Machine_end cd_Machine_end ct_Machine_end : Value}
  {p_Machine_end : Addr} {rs_Machine_end : List Value}
  (a__wall : PySem.W.nsIn K mainGlobals "_wall" = some (some (.ref f__wall)))
  (l__wall : K.lookup f__wall = some ⟨oc__wall, od__wall, .func (PySem.W.fnOf "_wall" "_wall" (defArgs s__wall) (defBody s__wall) (defScope s__wall) .none kV__wall dc__wall pm__wall an__wall cd__wall ct__wall), sl__wall⟩)
  (q__wall : PySem.W.codeIn K cd__wall "_wall" = true)
  (k__wall : PySem.W.keepIn K (.ref f__wall) = true)
  (a_lowest : PySem.W.nsIn K mainGlobals "lowest" = some (some (.ref f_lowest)))
  (l_lowest : K.lookup f_lowest = some ⟨oc_lowest, od_lowest, .func (PySem.W.fnOf "lowest" "lowest" (defArgs s_lowest) (defBody s_lowest) (defScope s_lowest) .none kV_lowest dc_lowest pm_lowest an_lowest cd_lowest ct_lowest), sl_lowest⟩)
  (q_lowest : PySem.W.codeIn K cd_lowest "lowest" = true)
  (k_lowest : PySem.W.keepIn K (.ref f_lowest) = true)
  (a_is_number : PySem.W.nsIn K mainGlobals "is_number" = some (some (.ref f_is_number)))
  (l_is_number : K.lookup f_is_number = some ⟨oc_is_number, od_is_number, .func (PySem.W.fnOf "is_number" "is_number" (defArgs s_is_number) (defBody s_is_number) (defScope s_is_number) .none kV_is_number dc_is_number pm_is_number an_is_number cd_is_number ct_is_number), sl_is_number⟩)
  (q_is_number : PySem.W.codeIn K cd_is_number "is_number" = true)
  (k_is_number : PySem.W.keepIn K (.ref f_is_number) = true)
  (a_checked : PySem.W.nsIn K mainGlobals "checked" = some (some (.ref f_checked)))
  (l_checked : K.lookup f_checked = some ⟨oc_checked, od_checked, .func (PySem.W.fnOf "checked" "checked" (defArgs s_checked) (defBody s_checked) (defScope s_checked) .none kV_checked dc_checked pm_checked an_checked cd_checked ct_checked), sl_checked⟩)
  (q_checked : PySem.W.codeIn K cd_checked "checked" = true)
  (k_checked : PySem.W.keepIn K (.ref f_checked) = true)
  (a_integers_of : PySem.W.nsIn K mainGlobals "integers_of" = some (some (.ref f_integers_of)))
  (l_integers_of : K.lookup f_integers_of = some ⟨oc_integers_of, od_integers_of, .func (PySem.W.fnOf "integers_of" "integers_of" (defArgs s_integers_of) (defBody s_integers_of) (defScope s_integers_of) .none kV_integers_of dc_integers_of pm_integers_of an_integers_of cd_integers_of ct_integers_of), sl_integers_of⟩)
  (q_integers_of : PySem.W.codeIn K cd_integers_of "integers_of" = true)
  (k_integers_of : PySem.W.keepIn K (.ref f_integers_of) = true)
  (a_checked_signs : PySem.W.nsIn K mainGlobals "checked_signs" = some (some (.ref f_checked_signs)))
  (l_checked_signs : K.lookup f_checked_signs = some ⟨oc_checked_signs, od_checked_signs, .func (PySem.W.fnOf "checked_signs" "checked_signs" (defArgs s_checked_signs) (defBody s_checked_signs) (defScope s_checked_signs) .none kV_checked_signs dc_checked_signs pm_checked_signs an_checked_signs cd_checked_signs ct_checked_signs), sl_checked_signs⟩)
  (q_checked_signs : PySem.W.codeIn K cd_checked_signs "checked_signs" = true)
  (k_checked_signs : PySem.W.keepIn K (.ref f_checked_signs) = true)
  (a_checked_sign : PySem.W.nsIn K mainGlobals "checked_sign" = some (some (.ref f_checked_sign)))
  (l_checked_sign : K.lookup f_checked_sign = some ⟨oc_checked_sign, od_checked_sign, .func (PySem.W.fnOf "checked_sign" "checked_sign" (defArgs s_checked_sign) (defBody s_checked_sign) (defScope s_checked_sign) .none kV_checked_sign dc_checked_sign pm_checked_sign an_checked_sign cd_checked_sign ct_checked_sign), sl_checked_sign⟩)
  (q_checked_sign : PySem.W.codeIn K cd_checked_sign "checked_sign" = true)
  (k_checked_sign : PySem.W.keepIn K (.ref f_checked_sign) = true)
  (a_known : PySem.W.nsIn K mainGlobals "known" = some (some (.ref f_known)))
  (l_known : K.lookup f_known = some ⟨oc_known, od_known, .func (PySem.W.fnOf "known" "known" (defArgs s_known) (defBody s_known) (defScope s_known) .none kV_known dc_known pm_known an_known cd_known ct_known), sl_known⟩)
  (q_known : PySem.W.codeIn K cd_known "known" = true)
  (k_known : PySem.W.keepIn K (.ref f_known) = true)
  (a_checked_machine : PySem.W.nsIn K mainGlobals "checked_machine" = some (some (.ref f_checked_machine)))
  (l_checked_machine : K.lookup f_checked_machine = some ⟨oc_checked_machine, od_checked_machine, .func (PySem.W.fnOf "checked_machine" "checked_machine" (defArgs s_checked_machine) (defBody s_checked_machine) (defScope s_checked_machine) .none kV_checked_machine dc_checked_machine pm_checked_machine an_checked_machine cd_checked_machine ct_checked_machine), sl_checked_machine⟩)
  (q_checked_machine : PySem.W.codeIn K cd_checked_machine "checked_machine" = true)
  (k_checked_machine : PySem.W.keepIn K (.ref f_checked_machine) = true)
  (a_steps_of : PySem.W.nsIn K mainGlobals "steps_of" = some (some (.ref f_steps_of)))
  (l_steps_of : K.lookup f_steps_of = some ⟨oc_steps_of, od_steps_of, .func (PySem.W.fnOf "steps_of" "steps_of" (defArgs s_steps_of) (defBody s_steps_of) (defScope s_steps_of) .none kV_steps_of dc_steps_of pm_steps_of an_steps_of cd_steps_of ct_steps_of), sl_steps_of⟩)
  (q_steps_of : PySem.W.codeIn K cd_steps_of "steps_of" = true)
  (k_steps_of : PySem.W.keepIn K (.ref f_steps_of) = true)
  (a_integers_behind : PySem.W.nsIn K mainGlobals "integers_behind" = some (some (.ref f_integers_behind)))
  (l_integers_behind : K.lookup f_integers_behind = some ⟨oc_integers_behind, od_integers_behind, .func (PySem.W.fnOf "integers_behind" "integers_behind" (defArgs s_integers_behind) (defBody s_integers_behind) (defScope s_integers_behind) .none kV_integers_behind dc_integers_behind pm_integers_behind an_integers_behind cd_integers_behind ct_integers_behind), sl_integers_behind⟩)
  (q_integers_behind : PySem.W.codeIn K cd_integers_behind "integers_behind" = true)
  (k_integers_behind : PySem.W.keepIn K (.ref f_integers_behind) = true)
  (a__law_deck : PySem.W.nsIn K mainGlobals "_law_deck" = some (some (.ref f__law_deck)))
  (l__law_deck : K.lookup f__law_deck = some ⟨oc__law_deck, od__law_deck, .func (PySem.W.fnOf "_law_deck" "_law_deck" (defArgs s__law_deck) (defBody s__law_deck) (defScope s__law_deck) .none kV__law_deck dc__law_deck pm__law_deck an__law_deck cd__law_deck ct__law_deck), sl__law_deck⟩)
  (q__law_deck : PySem.W.codeIn K cd__law_deck "_law_deck" = true)
  (k__law_deck : PySem.W.keepIn K (.ref f__law_deck) = true)
  (a__law_draw : PySem.W.nsIn K mainGlobals "_law_draw" = some (some (.ref f__law_draw)))
  (l__law_draw : K.lookup f__law_draw = some ⟨oc__law_draw, od__law_draw, .func (PySem.W.fnOf "_law_draw" "_law_draw" (defArgs s__law_draw) (defBody s__law_draw) (defScope s__law_draw) .none kV__law_draw dc__law_draw pm__law_draw an__law_draw cd__law_draw ct__law_draw), sl__law_draw⟩)
  (q__law_draw : PySem.W.codeIn K cd__law_draw "_law_draw" = true)
  (k__law_draw : PySem.W.keepIn K (.ref f__law_draw) = true)
  (a__law_gcd : PySem.W.nsIn K mainGlobals "_law_gcd" = some (some (.ref f__law_gcd)))
  (l__law_gcd : K.lookup f__law_gcd = some ⟨oc__law_gcd, od__law_gcd, .func (PySem.W.fnOf "_law_gcd" "_law_gcd" (defArgs s__law_gcd) (defBody s__law_gcd) (defScope s__law_gcd) .none kV__law_gcd dc__law_gcd pm__law_gcd an__law_gcd cd__law_gcd ct__law_gcd), sl__law_gcd⟩)
  (q__law_gcd : PySem.W.codeIn K cd__law_gcd "_law_gcd" = true)
  (k__law_gcd : PySem.W.keepIn K (.ref f__law_gcd) = true)
  (a__law_pair : PySem.W.nsIn K mainGlobals "_law_pair" = some (some (.ref f__law_pair)))
  (l__law_pair : K.lookup f__law_pair = some ⟨oc__law_pair, od__law_pair, .func (PySem.W.fnOf "_law_pair" "_law_pair" (defArgs s__law_pair) (defBody s__law_pair) (defScope s__law_pair) .none kV__law_pair dc__law_pair pm__law_pair an__law_pair cd__law_pair ct__law_pair), sl__law_pair⟩)
  (q__law_pair : PySem.W.codeIn K cd__law_pair "_law_pair" = true)
  (k__law_pair : PySem.W.keepIn K (.ref f__law_pair) = true)
  (a__law_alike : PySem.W.nsIn K mainGlobals "_law_alike" = some (some (.ref f__law_alike)))
  (l__law_alike : K.lookup f__law_alike = some ⟨oc__law_alike, od__law_alike, .func (PySem.W.fnOf "_law_alike" "_law_alike" (defArgs s__law_alike) (defBody s__law_alike) (defScope s__law_alike) .none kV__law_alike dc__law_alike pm__law_alike an__law_alike cd__law_alike ct__law_alike), sl__law_alike⟩)
  (q__law_alike : PySem.W.codeIn K cd__law_alike "_law_alike" = true)
  (k__law_alike : PySem.W.keepIn K (.ref f__law_alike) = true)
  (a__law_signs : PySem.W.nsIn K mainGlobals "_law_signs" = some (some (.ref f__law_signs)))
  (l__law_signs : K.lookup f__law_signs = some ⟨oc__law_signs, od__law_signs, .func (PySem.W.fnOf "_law_signs" "_law_signs" (defArgs s__law_signs) (defBody s__law_signs) (defScope s__law_signs) .none kV__law_signs dc__law_signs pm__law_signs an__law_signs cd__law_signs ct__law_signs), sl__law_signs⟩)
  (q__law_signs : PySem.W.codeIn K cd__law_signs "_law_signs" = true)
  (k__law_signs : PySem.W.keepIn K (.ref f__law_signs) = true)
  (a__law_number : PySem.W.nsIn K mainGlobals "_law_number" = some (some (.ref f__law_number)))
  (l__law_number : K.lookup f__law_number = some ⟨oc__law_number, od__law_number, .func (PySem.W.fnOf "_law_number" "_law_number" (defArgs s__law_number) (defBody s__law_number) (defScope s__law_number) .none kV__law_number dc__law_number pm__law_number an__law_number cd__law_number ct__law_number), sl__law_number⟩)
  (q__law_number : PySem.W.codeIn K cd__law_number "_law_number" = true)
  (k__law_number : PySem.W.keepIn K (.ref f__law_number) = true)
  (a__law_machine : PySem.W.nsIn K mainGlobals "_law_machine" = some (some (.ref f__law_machine)))
  (l__law_machine : K.lookup f__law_machine = some ⟨oc__law_machine, od__law_machine, .func (PySem.W.fnOf "_law_machine" "_law_machine" (defArgs s__law_machine) (defBody s__law_machine) (defScope s__law_machine) .none kV__law_machine dc__law_machine pm__law_machine an__law_machine cd__law_machine ct__law_machine), sl__law_machine⟩)
  (q__law_machine : PySem.W.codeIn K cd__law_machine "_law_machine" = true)
  (k__law_machine : PySem.W.keepIn K (.ref f__law_machine) = true)
  (a__law_wrong_signs : PySem.W.nsIn K mainGlobals "_law_wrong_signs" = some (some (.ref f__law_wrong_signs)))
  (l__law_wrong_signs : K.lookup f__law_wrong_signs = some ⟨oc__law_wrong_signs, od__law_wrong_signs, .func (PySem.W.fnOf "_law_wrong_signs" "_law_wrong_signs" (defArgs s__law_wrong_signs) (defBody s__law_wrong_signs) (defScope s__law_wrong_signs) .none kV__law_wrong_signs dc__law_wrong_signs pm__law_wrong_signs an__law_wrong_signs cd__law_wrong_signs ct__law_wrong_signs), sl__law_wrong_signs⟩)
  (q__law_wrong_signs : PySem.W.codeIn K cd__law_wrong_signs "_law_wrong_signs" = true)
  (k__law_wrong_signs : PySem.W.keepIn K (.ref f__law_wrong_signs) = true)
  (a__law_wrong_number : PySem.W.nsIn K mainGlobals "_law_wrong_number" = some (some (.ref f__law_wrong_number)))
  (l__law_wrong_number : K.lookup f__law_wrong_number = some ⟨oc__law_wrong_number, od__law_wrong_number, .func (PySem.W.fnOf "_law_wrong_number" "_law_wrong_number" (defArgs s__law_wrong_number) (defBody s__law_wrong_number) (defScope s__law_wrong_number) .none kV__law_wrong_number dc__law_wrong_number pm__law_wrong_number an__law_wrong_number cd__law_wrong_number ct__law_wrong_number), sl__law_wrong_number⟩)
  (q__law_wrong_number : PySem.W.codeIn K cd__law_wrong_number "_law_wrong_number" = true)
  (k__law_wrong_number : PySem.W.keepIn K (.ref f__law_wrong_number) = true)
  (a__law_wrong_sign : PySem.W.nsIn K mainGlobals "_law_wrong_sign" = some (some (.ref f__law_wrong_sign)))
  (l__law_wrong_sign : K.lookup f__law_wrong_sign = some ⟨oc__law_wrong_sign, od__law_wrong_sign, .func (PySem.W.fnOf "_law_wrong_sign" "_law_wrong_sign" (defArgs s__law_wrong_sign) (defBody s__law_wrong_sign) (defScope s__law_wrong_sign) .none kV__law_wrong_sign dc__law_wrong_sign pm__law_wrong_sign an__law_wrong_sign cd__law_wrong_sign ct__law_wrong_sign), sl__law_wrong_sign⟩)
  (q__law_wrong_sign : PySem.W.codeIn K cd__law_wrong_sign "_law_wrong_sign" = true)
  (k__law_wrong_sign : PySem.W.keepIn K (.ref f__law_wrong_sign) = true)
  (a__law_bent : PySem.W.nsIn K mainGlobals "_law_bent" = some (some (.ref f__law_bent)))
  (l__law_bent : K.lookup f__law_bent = some ⟨oc__law_bent, od__law_bent, .func (PySem.W.fnOf "_law_bent" "_law_bent" (defArgs s__law_bent) (defBody s__law_bent) (defScope s__law_bent) .none kV__law_bent dc__law_bent pm__law_bent an__law_bent cd__law_bent ct__law_bent), sl__law_bent⟩)
  (q__law_bent : PySem.W.codeIn K cd__law_bent "_law_bent" = true)
  (k__law_bent : PySem.W.keepIn K (.ref f__law_bent) = true)
  (a__law_are_signs : PySem.W.nsIn K mainGlobals "_law_are_signs" = some (some (.ref f__law_are_signs)))
  (l__law_are_signs : K.lookup f__law_are_signs = some ⟨oc__law_are_signs, od__law_are_signs, .func (PySem.W.fnOf "_law_are_signs" "_law_are_signs" (defArgs s__law_are_signs) (defBody s__law_are_signs) (defScope s__law_are_signs) .none kV__law_are_signs dc__law_are_signs pm__law_are_signs an__law_are_signs cd__law_are_signs ct__law_are_signs), sl__law_are_signs⟩)
  (q__law_are_signs : PySem.W.codeIn K cd__law_are_signs "_law_are_signs" = true)
  (k__law_are_signs : PySem.W.keepIn K (.ref f__law_are_signs) = true)
  (a__law_due : PySem.W.nsIn K mainGlobals "_law_due" = some (some (.ref f__law_due)))
  (l__law_due : K.lookup f__law_due = some ⟨oc__law_due, od__law_due, .func (PySem.W.fnOf "_law_due" "_law_due" (defArgs s__law_due) (defBody s__law_due) (defScope s__law_due) .none kV__law_due dc__law_due pm__law_due an__law_due cd__law_due ct__law_due), sl__law_due⟩)
  (q__law_due : PySem.W.codeIn K cd__law_due "_law_due" = true)
  (k__law_due : PySem.W.keepIn K (.ref f__law_due) = true)
  (a__law_told : PySem.W.nsIn K mainGlobals "_law_told" = some (some (.ref f__law_told)))
  (l__law_told : K.lookup f__law_told = some ⟨oc__law_told, od__law_told, .func (PySem.W.fnOf "_law_told" "_law_told" (defArgs s__law_told) (defBody s__law_told) (defScope s__law_told) .none kV__law_told dc__law_told pm__law_told an__law_told cd__law_told ct__law_told), sl__law_told⟩)
  (q__law_told : PySem.W.codeIn K cd__law_told "_law_told" = true)
  (k__law_told : PySem.W.keepIn K (.ref f__law_told) = true)
  (a__law_is_right : PySem.W.nsIn K mainGlobals "_law_is_right" = some (some (.ref f__law_is_right)))
  (l__law_is_right : K.lookup f__law_is_right = some ⟨oc__law_is_right, od__law_is_right, .func (PySem.W.fnOf "_law_is_right" "_law_is_right" (defArgs s__law_is_right) (defBody s__law_is_right) (defScope s__law_is_right) .none kV__law_is_right dc__law_is_right pm__law_is_right an__law_is_right cd__law_is_right ct__law_is_right), sl__law_is_right⟩)
  (q__law_is_right : PySem.W.codeIn K cd__law_is_right "_law_is_right" = true)
  (k__law_is_right : PySem.W.keepIn K (.ref f__law_is_right) = true)
  (a_law : PySem.W.nsIn K mainGlobals "law" = some (some (.ref f_law)))
  (l_law : K.lookup f_law = some ⟨oc_law, od_law, .func (PySem.W.fnOf "law" "law" (defArgs s_law) (defBody s_law) (defScope s_law) .none kV_law dc_law pm_law an_law cd_law ct_law), sl_law⟩)
  (q_law : PySem.W.codeIn K cd_law "law" = true)
  (k_law : PySem.W.keepIn K (.ref f_law) = true)
  (z_abs : PySem.W.nsIn K mainGlobals "abs" = some none)
  (z_int : PySem.W.nsIn K mainGlobals "int" = some none)
  (z_isinstance : PySem.W.nsIn K mainGlobals "isinstance" = some none)
  (z_list : PySem.W.nsIn K mainGlobals "list" = some none)
  (z_tuple : PySem.W.nsIn K mainGlobals "tuple" = some none)
  (z_len : PySem.W.nsIn K mainGlobals "len" = some none)
  (z_zip : PySem.W.nsIn K mainGlobals "zip" = some none)
  (z_str : PySem.W.nsIn K mainGlobals "str" = some none)
  (z_bool : PySem.W.nsIn K mainGlobals "bool" = some none)
  (z_range : PySem.W.nsIn K mainGlobals "range" = some none)
  (z_ValueError : PySem.W.nsIn K mainGlobals "ValueError" = some none)
  (z_sorted : PySem.W.nsIn K mainGlobals "sorted" = some none)
  (z_min : PySem.W.nsIn K mainGlobals "min" = some none)
  (z_gcd : PySem.W.nsIn K mainGlobals "gcd" = some (some (.builtin "math.gcd")))
  (z_lcm : PySem.W.nsIn K mainGlobals "lcm" = some (some (.builtin "math.lcm")))
  (z_LETTERS : PySem.W.nsIn K mainGlobals "LETTERS" = some (some (.str "abcdefghijklmnopqrstuvwxyz" tLE)))
  (aC_WorthError : PySem.W.nsIn K mainGlobals "WorthError" = some (some (.ref A_WorthError)))
  (xC_WorthError : K.lookup A_WorthError = some (excClassObj nm_WorthError qn_WorthError A_WorthError N_WorthError bs_WorthError bm_WorthError true sn_WorthError sub_WorthError ab_WorthError col_WorthError dd_WorthError m0_WorthError m1_WorthError m2_WorthError m3_WorthError m5_WorthError "ValueError.__new__"))
  (rC_WorthError : PySem.HandSPX.refsVE bm_WorthError = true)
  (sa_WorthError : PySem.W.findIn K (.ref A_WorthError) "__setattr__" = some (some (.builtin "object.__setattr__")))
  (eC_WorthError : PySem.W.subIn K (.ref A_WorthError) (.type "BaseException") = some true)
  (tC_WorthError : PySem.W.typeIn K (.ref A_WorthError) = some (.type "type"))
  (kC_WorthError : PySem.W.keepIn K (.ref A_WorthError) = true)
  (nv_WorthError : PySem.W.findIn K (.ref A_WorthError) "value" = some none)
  (ga_WorthError : PySem.W.findIn K (.ref A_WorthError) "__getattribute__" = some (some (.builtin "BaseException.__getattribute__")))
  (gg_WorthError : PySem.W.findIn K (.ref A_WorthError) "__getattr__" = some none)
  (hd_WorthError : PySem.W.hasDictIn K A_WorthError = true)
  (ha_WorthError : PySem.W.findIn K (.ref A_WorthError) "__class__" = some (some (.builtin "object.__class__")))
  (hm_WorthError : PySem.W.mroIn K A_WorthError (.type "object") = some true)
  (iI_WorthError : PySem.W.findIn K (.ref A_WorthError) "__init__" = some (some (.ref fI)))
  (aC_InvalidNumber : PySem.W.nsIn K mainGlobals "InvalidNumber" = some (some (.ref A_InvalidNumber)))
  (xC_InvalidNumber : K.lookup A_InvalidNumber = some (excClassObj nm_InvalidNumber qn_InvalidNumber A_InvalidNumber N_InvalidNumber bs_InvalidNumber bm_InvalidNumber true sn_InvalidNumber sub_InvalidNumber ab_InvalidNumber col_InvalidNumber dd_InvalidNumber m0_InvalidNumber m1_InvalidNumber m2_InvalidNumber m3_InvalidNumber m5_InvalidNumber "ValueError.__new__"))
  (rC_InvalidNumber : PySem.HandSPX.refsVE bm_InvalidNumber = true)
  (sa_InvalidNumber : PySem.W.findIn K (.ref A_InvalidNumber) "__setattr__" = some (some (.builtin "object.__setattr__")))
  (eC_InvalidNumber : PySem.W.subIn K (.ref A_InvalidNumber) (.type "BaseException") = some true)
  (tC_InvalidNumber : PySem.W.typeIn K (.ref A_InvalidNumber) = some (.type "type"))
  (kC_InvalidNumber : PySem.W.keepIn K (.ref A_InvalidNumber) = true)
  (nv_InvalidNumber : PySem.W.findIn K (.ref A_InvalidNumber) "value" = some none)
  (ga_InvalidNumber : PySem.W.findIn K (.ref A_InvalidNumber) "__getattribute__" = some (some (.builtin "BaseException.__getattribute__")))
  (gg_InvalidNumber : PySem.W.findIn K (.ref A_InvalidNumber) "__getattr__" = some none)
  (hd_InvalidNumber : PySem.W.hasDictIn K A_InvalidNumber = true)
  (ha_InvalidNumber : PySem.W.findIn K (.ref A_InvalidNumber) "__class__" = some (some (.builtin "object.__class__")))
  (hm_InvalidNumber : PySem.W.mroIn K A_InvalidNumber (.type "object") = some true)
  (iI_InvalidNumber : PySem.W.findIn K (.ref A_InvalidNumber) "__init__" = some (some (.ref fI)))
  (aC_InvalidSigns : PySem.W.nsIn K mainGlobals "InvalidSigns" = some (some (.ref A_InvalidSigns)))
  (xC_InvalidSigns : K.lookup A_InvalidSigns = some (excClassObj nm_InvalidSigns qn_InvalidSigns A_InvalidSigns N_InvalidSigns bs_InvalidSigns bm_InvalidSigns true sn_InvalidSigns sub_InvalidSigns ab_InvalidSigns col_InvalidSigns dd_InvalidSigns m0_InvalidSigns m1_InvalidSigns m2_InvalidSigns m3_InvalidSigns m5_InvalidSigns "ValueError.__new__"))
  (rC_InvalidSigns : PySem.HandSPX.refsVE bm_InvalidSigns = true)
  (sa_InvalidSigns : PySem.W.findIn K (.ref A_InvalidSigns) "__setattr__" = some (some (.builtin "object.__setattr__")))
  (eC_InvalidSigns : PySem.W.subIn K (.ref A_InvalidSigns) (.type "BaseException") = some true)
  (tC_InvalidSigns : PySem.W.typeIn K (.ref A_InvalidSigns) = some (.type "type"))
  (kC_InvalidSigns : PySem.W.keepIn K (.ref A_InvalidSigns) = true)
  (nv_InvalidSigns : PySem.W.findIn K (.ref A_InvalidSigns) "value" = some none)
  (ga_InvalidSigns : PySem.W.findIn K (.ref A_InvalidSigns) "__getattribute__" = some (some (.builtin "BaseException.__getattribute__")))
  (gg_InvalidSigns : PySem.W.findIn K (.ref A_InvalidSigns) "__getattr__" = some none)
  (hd_InvalidSigns : PySem.W.hasDictIn K A_InvalidSigns = true)
  (ha_InvalidSigns : PySem.W.findIn K (.ref A_InvalidSigns) "__class__" = some (some (.builtin "object.__class__")))
  (hm_InvalidSigns : PySem.W.mroIn K A_InvalidSigns (.type "object") = some true)
  (iI_InvalidSigns : PySem.W.findIn K (.ref A_InvalidSigns) "__init__" = some (some (.ref fI)))
  (aC_UnknownSign : PySem.W.nsIn K mainGlobals "UnknownSign" = some (some (.ref A_UnknownSign)))
  (xC_UnknownSign : K.lookup A_UnknownSign = some (excClassObj nm_UnknownSign qn_UnknownSign A_UnknownSign N_UnknownSign bs_UnknownSign bm_UnknownSign true sn_UnknownSign sub_UnknownSign ab_UnknownSign col_UnknownSign dd_UnknownSign m0_UnknownSign m1_UnknownSign m2_UnknownSign m3_UnknownSign m5_UnknownSign "ValueError.__new__"))
  (rC_UnknownSign : PySem.HandSPX.refsVE bm_UnknownSign = true)
  (sa_UnknownSign : PySem.W.findIn K (.ref A_UnknownSign) "__setattr__" = some (some (.builtin "object.__setattr__")))
  (eC_UnknownSign : PySem.W.subIn K (.ref A_UnknownSign) (.type "BaseException") = some true)
  (tC_UnknownSign : PySem.W.typeIn K (.ref A_UnknownSign) = some (.type "type"))
  (kC_UnknownSign : PySem.W.keepIn K (.ref A_UnknownSign) = true)
  (nv_UnknownSign : PySem.W.findIn K (.ref A_UnknownSign) "value" = some none)
  (ga_UnknownSign : PySem.W.findIn K (.ref A_UnknownSign) "__getattribute__" = some (some (.builtin "BaseException.__getattribute__")))
  (gg_UnknownSign : PySem.W.findIn K (.ref A_UnknownSign) "__getattr__" = some none)
  (hd_UnknownSign : PySem.W.hasDictIn K A_UnknownSign = true)
  (ha_UnknownSign : PySem.W.findIn K (.ref A_UnknownSign) "__class__" = some (some (.builtin "object.__class__")))
  (hm_UnknownSign : PySem.W.mroIn K A_UnknownSign (.type "object") = some true)
  (iI_UnknownSign : PySem.W.findIn K (.ref A_UnknownSign) "__init__" = some (some (.ref fI)))
  (aC_InvalidMachine : PySem.W.nsIn K mainGlobals "InvalidMachine" = some (some (.ref A_InvalidMachine)))
  (xC_InvalidMachine : K.lookup A_InvalidMachine = some (excClassObj nm_InvalidMachine qn_InvalidMachine A_InvalidMachine N_InvalidMachine bs_InvalidMachine bm_InvalidMachine true sn_InvalidMachine sub_InvalidMachine ab_InvalidMachine col_InvalidMachine dd_InvalidMachine m0_InvalidMachine m1_InvalidMachine m2_InvalidMachine m3_InvalidMachine m5_InvalidMachine "ValueError.__new__"))
  (rC_InvalidMachine : PySem.HandSPX.refsVE bm_InvalidMachine = true)
  (sa_InvalidMachine : PySem.W.findIn K (.ref A_InvalidMachine) "__setattr__" = some (some (.builtin "object.__setattr__")))
  (eC_InvalidMachine : PySem.W.subIn K (.ref A_InvalidMachine) (.type "BaseException") = some true)
  (tC_InvalidMachine : PySem.W.typeIn K (.ref A_InvalidMachine) = some (.type "type"))
  (kC_InvalidMachine : PySem.W.keepIn K (.ref A_InvalidMachine) = true)
  (nv_InvalidMachine : PySem.W.findIn K (.ref A_InvalidMachine) "value" = some none)
  (ga_InvalidMachine : PySem.W.findIn K (.ref A_InvalidMachine) "__getattribute__" = some (some (.builtin "BaseException.__getattribute__")))
  (gg_InvalidMachine : PySem.W.findIn K (.ref A_InvalidMachine) "__getattr__" = some none)
  (hd_InvalidMachine : PySem.W.hasDictIn K A_InvalidMachine = true)
  (ha_InvalidMachine : PySem.W.findIn K (.ref A_InvalidMachine) "__class__" = some (some (.builtin "object.__class__")))
  (hm_InvalidMachine : PySem.W.mroIn K A_InvalidMachine (.type "object") = some true)
  (iI_InvalidMachine : PySem.W.findIn K (.ref A_InvalidMachine) "__init__" = some (some (.ref fI)))
  (aC_UnlikeSigns : PySem.W.nsIn K mainGlobals "UnlikeSigns" = some (some (.ref A_UnlikeSigns)))
  (xC_UnlikeSigns : K.lookup A_UnlikeSigns = some (excClassObj nm_UnlikeSigns qn_UnlikeSigns A_UnlikeSigns N_UnlikeSigns bs_UnlikeSigns bm_UnlikeSigns true sn_UnlikeSigns sub_UnlikeSigns ab_UnlikeSigns col_UnlikeSigns dd_UnlikeSigns m0_UnlikeSigns m1_UnlikeSigns m2_UnlikeSigns m3_UnlikeSigns m5_UnlikeSigns "ValueError.__new__"))
  (rC_UnlikeSigns : PySem.HandSPX.refsVE bm_UnlikeSigns = true)
  (sa_UnlikeSigns : PySem.W.findIn K (.ref A_UnlikeSigns) "__setattr__" = some (some (.builtin "object.__setattr__")))
  (eC_UnlikeSigns : PySem.W.subIn K (.ref A_UnlikeSigns) (.type "BaseException") = some true)
  (tC_UnlikeSigns : PySem.W.typeIn K (.ref A_UnlikeSigns) = some (.type "type"))
  (kC_UnlikeSigns : PySem.W.keepIn K (.ref A_UnlikeSigns) = true)
  (nv_UnlikeSigns : PySem.W.findIn K (.ref A_UnlikeSigns) "value" = some none)
  (ga_UnlikeSigns : PySem.W.findIn K (.ref A_UnlikeSigns) "__getattribute__" = some (some (.builtin "BaseException.__getattribute__")))
  (gg_UnlikeSigns : PySem.W.findIn K (.ref A_UnlikeSigns) "__getattr__" = some none)
  (hd_UnlikeSigns : PySem.W.hasDictIn K A_UnlikeSigns = true)
  (ha_UnlikeSigns : PySem.W.findIn K (.ref A_UnlikeSigns) "__class__" = some (some (.builtin "object.__class__")))
  (hm_UnlikeSigns : PySem.W.mroIn K A_UnlikeSigns (.type "object") = some true)
  (iI_UnlikeSigns : PySem.W.findIn K (.ref A_UnlikeSigns) "__init__" = some (some (.ref fI)))
  (hn : PySem.W.specialIn K (.builtin "object.__class__") "__get__" = some (some (.builtin "getset_descriptor.__get__")))
  (ht : PySem.W.takesIn K (.builtin "object.__class__") = some true)
  (tI : PySem.W.typeIn K (.ref fI) = some (.type "function"))
  (lI : K.lookup fI = some ⟨ocI, odI, .func (PySem.W.fnOf "__init__" "WorthError.__init__" (defArgs s_WorthError___init__) (defBody s_WorthError___init__) (defScope s_WorthError___init__) .none kVI dcI pmI anI cdI ctI), slI⟩)
  (cI : PySem.W.codeIn K cdI "WorthError.__init__" = true)
  (kI : PySem.W.keepIn K (.ref fI) = true)
  (vV : PySem.W.findCls K (.type "ValueError") (.type "type") "__init__" = some (.val (.builtin "ValueError.__init__")))
  (aO_Machine : PySem.W.nsIn K mainGlobals "Machine" = some (some (.ref A_Machine)))
  (pgO_Machine : PySem.W.plainGet K A_Machine Str.empty = true)
  (hdO_Machine : PySem.W.hasDictIn K A_Machine = true)
  (poO_Machine : PySem.W.plainOver K A_Machine = true)
  (saO_Machine : PySem.W.findIn K (.ref A_Machine) "__setattr__" = some (some (.builtin "object.__setattr__")))
  (haO_Machine : PySem.W.findIn K (.ref A_Machine) "__class__" = some (some (.builtin "object.__class__")))
  (hmO_Machine : PySem.W.mroIn K A_Machine (.type "object") = some true)
  (na_signs_Machine : PySem.W.findIn K (.ref A_Machine) "_signs" = some none)
  (na_begin_Machine : PySem.W.findIn K (.ref A_Machine) "_begin" = some none)
  (na_roads_Machine : PySem.W.findIn K (.ref A_Machine) "_roads" = some none)
  (na_end_Machine : PySem.W.findIn K (.ref A_Machine) "_end" = some none)
  (na_steps_Machine : PySem.W.findIn K (.ref A_Machine) "_steps" = some none)
  (mkO_Machine : PySem.W.makesIn K A_Machine = true)
  (kpO_Machine : PySem.W.keepIn K (.ref A_Machine) = true)
  (fi_Machine___init__ : PySem.W.findIn K (.ref A_Machine) "__init__" = some (some (.ref f_Machine___init__)))
  (fn_Machine___init__ : PySem.W.isFn K (.ref f_Machine___init__) = true)
  (l_Machine___init__ : K.lookup f_Machine___init__ = some ⟨oc_Machine___init__, od_Machine___init__, .func (PySem.W.fnOf "__init__" "Machine.__init__" (defArgs s_Machine___init__) (defBody s_Machine___init__) (defScope s_Machine___init__) .none kV_Machine___init__ dc_Machine___init__ pm_Machine___init__ an_Machine___init__ cd_Machine___init__ ct_Machine___init__), sl_Machine___init__⟩)
  (q_Machine___init__ : PySem.W.codeIn K cd_Machine___init__ "Machine.__init__" = true)
  (k_Machine___init__ : PySem.W.keepIn K (.ref f_Machine___init__) = true)
  (fi_Machine___len__ : PySem.W.findIn K (.ref A_Machine) "__len__" = some (some (.ref f_Machine___len__)))
  (fn_Machine___len__ : PySem.W.isFn K (.ref f_Machine___len__) = true)
  (l_Machine___len__ : K.lookup f_Machine___len__ = some ⟨oc_Machine___len__, od_Machine___len__, .func (PySem.W.fnOf "__len__" "Machine.__len__" (defArgs s_Machine___len__) (defBody s_Machine___len__) (defScope s_Machine___len__) .none kV_Machine___len__ dc_Machine___len__ pm_Machine___len__ an_Machine___len__ cd_Machine___len__ ct_Machine___len__), sl_Machine___len__⟩)
  (q_Machine___len__ : PySem.W.codeIn K cd_Machine___len__ "Machine.__len__" = true)
  (k_Machine___len__ : PySem.W.keepIn K (.ref f_Machine___len__) = true)
  (fi_Machine_signs : PySem.W.findIn K (.ref A_Machine) "signs" = some (some (.ref p_Machine_signs)))
  (gt_Machine_signs : PySem.W.specialIn K (.ref p_Machine_signs) "__get__" = some (some (.builtin "property.__get__")))
  (tk_Machine_signs : PySem.W.takesIn K (.ref p_Machine_signs) = some true)
  (rc_Machine_signs : PySem.W.recIn K p_Machine_signs "property" = some (.ref f_Machine_signs :: rs_Machine_signs))
  (l_Machine_signs : K.lookup f_Machine_signs = some ⟨oc_Machine_signs, od_Machine_signs, .func (PySem.W.fnOf "signs" "Machine.signs" (defArgs s_Machine_signs) (defBody s_Machine_signs) (defScope s_Machine_signs) .none kV_Machine_signs dc_Machine_signs pm_Machine_signs an_Machine_signs cd_Machine_signs ct_Machine_signs), sl_Machine_signs⟩)
  (q_Machine_signs : PySem.W.codeIn K cd_Machine_signs "Machine.signs" = true)
  (k_Machine_signs : PySem.W.keepIn K (.ref f_Machine_signs) = true)
  (fi_Machine_begin : PySem.W.findIn K (.ref A_Machine) "begin" = some (some (.ref p_Machine_begin)))
  (gt_Machine_begin : PySem.W.specialIn K (.ref p_Machine_begin) "__get__" = some (some (.builtin "property.__get__")))
  (tk_Machine_begin : PySem.W.takesIn K (.ref p_Machine_begin) = some true)
  (rc_Machine_begin : PySem.W.recIn K p_Machine_begin "property" = some (.ref f_Machine_begin :: rs_Machine_begin))
  (l_Machine_begin : K.lookup f_Machine_begin = some ⟨oc_Machine_begin, od_Machine_begin, .func (PySem.W.fnOf "begin" "Machine.begin" (defArgs s_Machine_begin) (defBody s_Machine_begin) (defScope s_Machine_begin) .none kV_Machine_begin dc_Machine_begin pm_Machine_begin an_Machine_begin cd_Machine_begin ct_Machine_begin), sl_Machine_begin⟩)
  (q_Machine_begin : PySem.W.codeIn K cd_Machine_begin "Machine.begin" = true)
  (k_Machine_begin : PySem.W.keepIn K (.ref f_Machine_begin) = true)
  (fi_Machine_roads : PySem.W.findIn K (.ref A_Machine) "roads" = some (some (.ref p_Machine_roads)))
  (gt_Machine_roads : PySem.W.specialIn K (.ref p_Machine_roads) "__get__" = some (some (.builtin "property.__get__")))
  (tk_Machine_roads : PySem.W.takesIn K (.ref p_Machine_roads) = some true)
  (rc_Machine_roads : PySem.W.recIn K p_Machine_roads "property" = some (.ref f_Machine_roads :: rs_Machine_roads))
  (l_Machine_roads : K.lookup f_Machine_roads = some ⟨oc_Machine_roads, od_Machine_roads, .func (PySem.W.fnOf "roads" "Machine.roads" (defArgs s_Machine_roads) (defBody s_Machine_roads) (defScope s_Machine_roads) .none kV_Machine_roads dc_Machine_roads pm_Machine_roads an_Machine_roads cd_Machine_roads ct_Machine_roads), sl_Machine_roads⟩)
  (q_Machine_roads : PySem.W.codeIn K cd_Machine_roads "Machine.roads" = true)
  (k_Machine_roads : PySem.W.keepIn K (.ref f_Machine_roads) = true)
  (fi_Machine_end : PySem.W.findIn K (.ref A_Machine) "end" = some (some (.ref p_Machine_end)))
  (gt_Machine_end : PySem.W.specialIn K (.ref p_Machine_end) "__get__" = some (some (.builtin "property.__get__")))
  (tk_Machine_end : PySem.W.takesIn K (.ref p_Machine_end) = some true)
  (rc_Machine_end : PySem.W.recIn K p_Machine_end "property" = some (.ref f_Machine_end :: rs_Machine_end))
  (l_Machine_end : K.lookup f_Machine_end = some ⟨oc_Machine_end, od_Machine_end, .func (PySem.W.fnOf "end" "Machine.end" (defArgs s_Machine_end) (defBody s_Machine_end) (defScope s_Machine_end) .none kV_Machine_end dc_Machine_end pm_Machine_end an_Machine_end cd_Machine_end ct_Machine_end), sl_Machine_end⟩)
  (q_Machine_end : PySem.W.codeIn K cd_Machine_end "Machine.end" = true)
  (k_Machine_end : PySem.W.keepIn K (.ref f_Machine_end) = true)
  (s_0 : PySem.W.subIn K (.ref A_InvalidSigns) (.ref A_WorthError) = some true)
  (v_0 : PySem.W.kitOne K (.ref A_InvalidSigns) (.type "ValueError") = some true)
  (kt_0_1 : PySem.W.kitOne K (.ref A_InvalidSigns) (.ref A_InvalidNumber) = some false)
  (kt_0_2 : PySem.W.kitOne K (.ref A_InvalidSigns) (.ref A_InvalidMachine) = some false)
  (kt_0_3 : PySem.W.kitOne K (.ref A_InvalidSigns) (.ref A_UnknownSign) = some false)
  (kt_0_4 : PySem.W.kitOne K (.ref A_InvalidSigns) (.ref A_UnlikeSigns) = some false)
  (s_1 : PySem.W.subIn K (.ref A_InvalidNumber) (.ref A_WorthError) = some true)
  (v_1 : PySem.W.kitOne K (.ref A_InvalidNumber) (.type "ValueError") = some true)
  (kt_1_0 : PySem.W.kitOne K (.ref A_InvalidNumber) (.ref A_InvalidSigns) = some false)
  (kt_1_2 : PySem.W.kitOne K (.ref A_InvalidNumber) (.ref A_InvalidMachine) = some false)
  (kt_1_3 : PySem.W.kitOne K (.ref A_InvalidNumber) (.ref A_UnknownSign) = some false)
  (kt_1_4 : PySem.W.kitOne K (.ref A_InvalidNumber) (.ref A_UnlikeSigns) = some false)
  (s_2 : PySem.W.subIn K (.ref A_InvalidMachine) (.ref A_WorthError) = some true)
  (v_2 : PySem.W.kitOne K (.ref A_InvalidMachine) (.type "ValueError") = some true)
  (kt_2_0 : PySem.W.kitOne K (.ref A_InvalidMachine) (.ref A_InvalidSigns) = some false)
  (kt_2_1 : PySem.W.kitOne K (.ref A_InvalidMachine) (.ref A_InvalidNumber) = some false)
  (kt_2_3 : PySem.W.kitOne K (.ref A_InvalidMachine) (.ref A_UnknownSign) = some false)
  (kt_2_4 : PySem.W.kitOne K (.ref A_InvalidMachine) (.ref A_UnlikeSigns) = some false)
  (s_3 : PySem.W.subIn K (.ref A_UnknownSign) (.ref A_WorthError) = some true)
  (v_3 : PySem.W.kitOne K (.ref A_UnknownSign) (.type "ValueError") = some true)
  (kt_3_0 : PySem.W.kitOne K (.ref A_UnknownSign) (.ref A_InvalidSigns) = some false)
  (kt_3_1 : PySem.W.kitOne K (.ref A_UnknownSign) (.ref A_InvalidNumber) = some false)
  (kt_3_2 : PySem.W.kitOne K (.ref A_UnknownSign) (.ref A_InvalidMachine) = some false)
  (kt_3_4 : PySem.W.kitOne K (.ref A_UnknownSign) (.ref A_UnlikeSigns) = some false) :
  ∃ fd : FuncData, (∀ (s : Shared) (u : Value), BindsTo s fd ⟨[u], []⟩ [("_law_script", u)]) ∧ ∀ base : Heap, K.In base → base.Ns mainGlobals mg → FnOk P w K mg base CX0 9 fa fd ["_law_script"] (spD K 1 P_law) := by
  have S__wall : Std K mg "_wall" s__wall := ⟨_, _, PySem.W.mg_of X G a__wall, fun_mk (st := s__wall) l__wall q__wall k__wall⟩
  have S_lowest : Std K mg "lowest" s_lowest := ⟨_, _, PySem.W.mg_of X G a_lowest, fun_mk (st := s_lowest) l_lowest q_lowest k_lowest⟩
  have S_is_number : Std K mg "is_number" s_is_number := ⟨_, _, PySem.W.mg_of X G a_is_number, fun_mk (st := s_is_number) l_is_number q_is_number k_is_number⟩
  have S_checked : Std K mg "checked" s_checked := ⟨_, _, PySem.W.mg_of X G a_checked, fun_mk (st := s_checked) l_checked q_checked k_checked⟩
  have S_integers_of : Std K mg "integers_of" s_integers_of := ⟨_, _, PySem.W.mg_of X G a_integers_of, fun_mk (st := s_integers_of) l_integers_of q_integers_of k_integers_of⟩
  have S_checked_signs : Std K mg "checked_signs" s_checked_signs := ⟨_, _, PySem.W.mg_of X G a_checked_signs, fun_mk (st := s_checked_signs) l_checked_signs q_checked_signs k_checked_signs⟩
  have S_checked_sign : Std K mg "checked_sign" s_checked_sign := ⟨_, _, PySem.W.mg_of X G a_checked_sign, fun_mk (st := s_checked_sign) l_checked_sign q_checked_sign k_checked_sign⟩
  have S_known : Std K mg "known" s_known := ⟨_, _, PySem.W.mg_of X G a_known, fun_mk (st := s_known) l_known q_known k_known⟩
  have S_checked_machine : Std K mg "checked_machine" s_checked_machine := ⟨_, _, PySem.W.mg_of X G a_checked_machine, fun_mk (st := s_checked_machine) l_checked_machine q_checked_machine k_checked_machine⟩
  have S_steps_of : Std K mg "steps_of" s_steps_of := ⟨_, _, PySem.W.mg_of X G a_steps_of, fun_mk (st := s_steps_of) l_steps_of q_steps_of k_steps_of⟩
  have S_integers_behind : Std K mg "integers_behind" s_integers_behind := ⟨_, _, PySem.W.mg_of X G a_integers_behind, fun_mk (st := s_integers_behind) l_integers_behind q_integers_behind k_integers_behind⟩
  have S__law_deck : Std K mg "_law_deck" s__law_deck := ⟨_, _, PySem.W.mg_of X G a__law_deck, fun_mk (st := s__law_deck) l__law_deck q__law_deck k__law_deck⟩
  have S__law_draw : Std K mg "_law_draw" s__law_draw := ⟨_, _, PySem.W.mg_of X G a__law_draw, fun_mk (st := s__law_draw) l__law_draw q__law_draw k__law_draw⟩
  have S__law_gcd : Std K mg "_law_gcd" s__law_gcd := ⟨_, _, PySem.W.mg_of X G a__law_gcd, fun_mk (st := s__law_gcd) l__law_gcd q__law_gcd k__law_gcd⟩
  have S__law_pair : Std K mg "_law_pair" s__law_pair := ⟨_, _, PySem.W.mg_of X G a__law_pair, fun_mk (st := s__law_pair) l__law_pair q__law_pair k__law_pair⟩
  have S__law_alike : Std K mg "_law_alike" s__law_alike := ⟨_, _, PySem.W.mg_of X G a__law_alike, fun_mk (st := s__law_alike) l__law_alike q__law_alike k__law_alike⟩
  have S__law_signs : Std K mg "_law_signs" s__law_signs := ⟨_, _, PySem.W.mg_of X G a__law_signs, fun_mk (st := s__law_signs) l__law_signs q__law_signs k__law_signs⟩
  have S__law_number : Std K mg "_law_number" s__law_number := ⟨_, _, PySem.W.mg_of X G a__law_number, fun_mk (st := s__law_number) l__law_number q__law_number k__law_number⟩
  have S__law_machine : Std K mg "_law_machine" s__law_machine := ⟨_, _, PySem.W.mg_of X G a__law_machine, fun_mk (st := s__law_machine) l__law_machine q__law_machine k__law_machine⟩
  have S__law_wrong_signs : Std K mg "_law_wrong_signs" s__law_wrong_signs := ⟨_, _, PySem.W.mg_of X G a__law_wrong_signs, fun_mk (st := s__law_wrong_signs) l__law_wrong_signs q__law_wrong_signs k__law_wrong_signs⟩
  have S__law_wrong_number : Std K mg "_law_wrong_number" s__law_wrong_number := ⟨_, _, PySem.W.mg_of X G a__law_wrong_number, fun_mk (st := s__law_wrong_number) l__law_wrong_number q__law_wrong_number k__law_wrong_number⟩
  have S__law_wrong_sign : Std K mg "_law_wrong_sign" s__law_wrong_sign := ⟨_, _, PySem.W.mg_of X G a__law_wrong_sign, fun_mk (st := s__law_wrong_sign) l__law_wrong_sign q__law_wrong_sign k__law_wrong_sign⟩
  have S__law_bent : Std K mg "_law_bent" s__law_bent := ⟨_, _, PySem.W.mg_of X G a__law_bent, fun_mk (st := s__law_bent) l__law_bent q__law_bent k__law_bent⟩
  have S__law_are_signs : Std K mg "_law_are_signs" s__law_are_signs := ⟨_, _, PySem.W.mg_of X G a__law_are_signs, fun_mk (st := s__law_are_signs) l__law_are_signs q__law_are_signs k__law_are_signs⟩
  have S__law_due : Std K mg "_law_due" s__law_due := ⟨_, _, PySem.W.mg_of X G a__law_due, fun_mk (st := s__law_due) l__law_due q__law_due k__law_due⟩
  have S__law_told : Std K mg "_law_told" s__law_told := ⟨_, _, PySem.W.mg_of X G a__law_told, fun_mk (st := s__law_told) l__law_told q__law_told k__law_told⟩
  have S__law_is_right : Std K mg "_law_is_right" s__law_is_right := ⟨_, _, PySem.W.mg_of X G a__law_is_right, fun_mk (st := s__law_is_right) l__law_is_right q__law_is_right k__law_is_right⟩
  have S_law : Std K mg "law" s_law := ⟨_, _, PySem.W.mg_of X G a_law, fun_mk (st := s_law) l_law q_law k_law⟩
  have n_abs : mg "abs" = none := PySem.W.mg_none_of X G z_abs
  have n_int : mg "int" = none := PySem.W.mg_none_of X G z_int
  have n_isinstance : mg "isinstance" = none := PySem.W.mg_none_of X G z_isinstance
  have n_list : mg "list" = none := PySem.W.mg_none_of X G z_list
  have n_tuple : mg "tuple" = none := PySem.W.mg_none_of X G z_tuple
  have n_len : mg "len" = none := PySem.W.mg_none_of X G z_len
  have n_zip : mg "zip" = none := PySem.W.mg_none_of X G z_zip
  have n_str : mg "str" = none := PySem.W.mg_none_of X G z_str
  have n_bool : mg "bool" = none := PySem.W.mg_none_of X G z_bool
  have n_range : mg "range" = none := PySem.W.mg_none_of X G z_range
  have n_ValueError : mg "ValueError" = none := PySem.W.mg_none_of X G z_ValueError
  have n_sorted : mg "sorted" = none := PySem.W.mg_none_of X G z_sorted
  have n_min : mg "min" = none := PySem.W.mg_none_of X G z_min
  have m_gcd : mg "gcd" = some (.builtin "math.gcd") := PySem.W.mg_of X G z_gcd
  have m_lcm : mg "lcm" = some (.builtin "math.lcm") := PySem.W.mg_of X G z_lcm
  have m_LETTERS : mg "LETTERS" = some (.str "abcdefghijklmnopqrstuvwxyz" tLE) := PySem.W.mg_of X G z_LETTERS
  have X_WorthError : ExcD K mg "WorthError" A_WorthError fI := ⟨PySem.W.mg_of X G aC_WorthError, ⟨⟨⟨_, _, _, _, _, _, _, _, _, _, _, _, _, _, _, xC_WorthError, rC_WorthError⟩, sa_WorthError, eC_WorthError, tC_WorthError, kC_WorthError⟩, nv_WorthError, ga_WorthError, gg_WorthError, hd_WorthError, ha_WorthError, hm_WorthError⟩, iI_WorthError⟩
  have X_InvalidNumber : ExcD K mg "InvalidNumber" A_InvalidNumber fI := ⟨PySem.W.mg_of X G aC_InvalidNumber, ⟨⟨⟨_, _, _, _, _, _, _, _, _, _, _, _, _, _, _, xC_InvalidNumber, rC_InvalidNumber⟩, sa_InvalidNumber, eC_InvalidNumber, tC_InvalidNumber, kC_InvalidNumber⟩, nv_InvalidNumber, ga_InvalidNumber, gg_InvalidNumber, hd_InvalidNumber, ha_InvalidNumber, hm_InvalidNumber⟩, iI_InvalidNumber⟩
  have X_InvalidSigns : ExcD K mg "InvalidSigns" A_InvalidSigns fI := ⟨PySem.W.mg_of X G aC_InvalidSigns, ⟨⟨⟨_, _, _, _, _, _, _, _, _, _, _, _, _, _, _, xC_InvalidSigns, rC_InvalidSigns⟩, sa_InvalidSigns, eC_InvalidSigns, tC_InvalidSigns, kC_InvalidSigns⟩, nv_InvalidSigns, ga_InvalidSigns, gg_InvalidSigns, hd_InvalidSigns, ha_InvalidSigns, hm_InvalidSigns⟩, iI_InvalidSigns⟩
  have X_UnknownSign : ExcD K mg "UnknownSign" A_UnknownSign fI := ⟨PySem.W.mg_of X G aC_UnknownSign, ⟨⟨⟨_, _, _, _, _, _, _, _, _, _, _, _, _, _, _, xC_UnknownSign, rC_UnknownSign⟩, sa_UnknownSign, eC_UnknownSign, tC_UnknownSign, kC_UnknownSign⟩, nv_UnknownSign, ga_UnknownSign, gg_UnknownSign, hd_UnknownSign, ha_UnknownSign, hm_UnknownSign⟩, iI_UnknownSign⟩
  have X_InvalidMachine : ExcD K mg "InvalidMachine" A_InvalidMachine fI := ⟨PySem.W.mg_of X G aC_InvalidMachine, ⟨⟨⟨_, _, _, _, _, _, _, _, _, _, _, _, _, _, _, xC_InvalidMachine, rC_InvalidMachine⟩, sa_InvalidMachine, eC_InvalidMachine, tC_InvalidMachine, kC_InvalidMachine⟩, nv_InvalidMachine, ga_InvalidMachine, gg_InvalidMachine, hd_InvalidMachine, ha_InvalidMachine, hm_InvalidMachine⟩, iI_InvalidMachine⟩
  have X_UnlikeSigns : ExcD K mg "UnlikeSigns" A_UnlikeSigns fI := ⟨PySem.W.mg_of X G aC_UnlikeSigns, ⟨⟨⟨_, _, _, _, _, _, _, _, _, _, _, _, _, _, _, xC_UnlikeSigns, rC_UnlikeSigns⟩, sa_UnlikeSigns, eC_UnlikeSigns, tC_UnlikeSigns, kC_UnlikeSigns⟩, nv_UnlikeSigns, ga_UnlikeSigns, gg_UnlikeSigns, hd_UnlikeSigns, ha_UnlikeSigns, hm_UnlikeSigns⟩, iI_UnlikeSigns⟩
  have Gc : ClsG K := ⟨hn, ht⟩
  have FI := fun_mk (st := s_WorthError___init__) lI cI kI
  have Cm_Machine : mg "Machine" = some (.ref A_Machine) := PySem.W.mg_of X G aO_Machine
  have Cl_Machine : Cls K A_Machine := ⟨pgO_Machine, hdO_Machine, poO_Machine, saO_Machine⟩
  have na_Machine : ∀ x ∈ (["_signs", "_begin", "_roads", "_end", "_steps"] : List Str), NoAttr K A_Machine x := by
    intro x hx
    simp only [List.mem_cons, List.not_mem_nil, or_false] at hx
    rcases hx with rfl | rfl | rfl | rfl | rfl
    · exact na_signs_Machine
    · exact na_begin_Machine
    · exact na_roads_Machine
    · exact na_end_Machine
    · exact na_steps_Machine
  have Fn_Machine___init__ := fun_mk (x := "__init__") (qual := "Machine.__init__") (st := s_Machine___init__) l_Machine___init__ q_Machine___init__ k_Machine___init__
  have Mkf_Machine : Mk K A_Machine f_Machine___init__ := ⟨mkO_Machine, fi_Machine___init__, fn_Machine___init__, kpO_Machine⟩
  have Fn_Machine___len__ := fun_mk (x := "__len__") (qual := "Machine.__len__") (st := s_Machine___len__) l_Machine___len__ q_Machine___len__ k_Machine___len__
  have Mt_Machine___len__ : Mtd K A_Machine "__len__" "Machine.__len__" s_Machine___len__ := ⟨_, _, fi_Machine___len__, fn_Machine___len__, Fn_Machine___len__⟩
  have Fn_Machine_signs := fun_mk (x := "signs") (qual := "Machine.signs") (st := s_Machine_signs) l_Machine_signs q_Machine_signs k_Machine_signs
  have Pf_Machine_signs : PropOf K A_Machine "signs" p_Machine_signs f_Machine_signs := ⟨fi_Machine_signs, gt_Machine_signs, tk_Machine_signs, _, rc_Machine_signs⟩
  have Fn_Machine_begin := fun_mk (x := "begin") (qual := "Machine.begin") (st := s_Machine_begin) l_Machine_begin q_Machine_begin k_Machine_begin
  have Pf_Machine_begin : PropOf K A_Machine "begin" p_Machine_begin f_Machine_begin := ⟨fi_Machine_begin, gt_Machine_begin, tk_Machine_begin, _, rc_Machine_begin⟩
  have Fn_Machine_roads := fun_mk (x := "roads") (qual := "Machine.roads") (st := s_Machine_roads) l_Machine_roads q_Machine_roads k_Machine_roads
  have Pf_Machine_roads : PropOf K A_Machine "roads" p_Machine_roads f_Machine_roads := ⟨fi_Machine_roads, gt_Machine_roads, tk_Machine_roads, _, rc_Machine_roads⟩
  have Fn_Machine_end := fun_mk (x := "end") (qual := "Machine.end") (st := s_Machine_end) l_Machine_end q_Machine_end k_Machine_end
  have Pf_Machine_end : PropOf K A_Machine "end" p_Machine_end f_Machine_end := ⟨fi_Machine_end, gt_Machine_end, tk_Machine_end, _, rc_Machine_end⟩
  have e := hfa.symm.trans (PySem.W.mg_of X G a_law)
  cases e
  have Fl := fun_mk (st := s_law) l_law q_law k_law
  refine ⟨_, fun s u => .of_eq rfl, fun base _ _ => cal_at (x := "law") (st := s_law) ?_ hfa Fl⟩
  have G_init : IniD P w K mg base fI := ⟨_, tI, ini_ok FI sc_WorthError___init__ (fun cdv A outer s H E => pss_cons (ps_expr (pe_veinit (by rfl) n_ValueError vV (pa_cons (pv 0) (pa_cons (pv 1) pa_nil)))) (pss_one (ps_ost (pv 0) (pv 1)))), FI.binds (ps := ["self", "value"]) fun _ _ _ _ _ _ us hl => match us, hl with | [_, _], _ => rfl⟩
  let cls : Nat → Addr := fun k => match k with | 0 => A_InvalidSigns | 1 => A_InvalidNumber | 2 => A_InvalidMachine | 3 => A_UnknownSign | _ => A_UnlikeSigns
  have hex : ∀ i, i ≤ 3 → PySem.W.exmOne K (.ref (cls i)) (.ref A_WorthError) = some true ∧ PySem.W.kitOne K (.ref (cls i)) (.type "ValueError") = some true ∧ ∀ j, j ≤ 4 → PySem.W.kitOne K (.ref (cls i)) (.ref (cls j)) = some (decide (i = j)) := by
      intro i hi
      have h4 : ∀ j, j ≤ 4 → j = 0 ∨ j = 1 ∨ j = 2 ∨ j = 3 ∨ j = 4 := by omega
      rcases h4 i (by omega) with rfl | rfl | rfl | rfl | rfl
      · refine ⟨PySem.W.exm_ref eC_WorthError hd_WorthError tC_WorthError s_0, v_0, fun j hj => ?_⟩
        rcases h4 j hj with rfl | rfl | rfl | rfl | rfl
        · exact kit_self
        · exact kt_0_1
        · exact kt_0_2
        · exact kt_0_3
        · exact kt_0_4
      · refine ⟨PySem.W.exm_ref eC_WorthError hd_WorthError tC_WorthError s_1, v_1, fun j hj => ?_⟩
        rcases h4 j hj with rfl | rfl | rfl | rfl | rfl
        · exact kt_1_0
        · exact kit_self
        · exact kt_1_2
        · exact kt_1_3
        · exact kt_1_4
      · refine ⟨PySem.W.exm_ref eC_WorthError hd_WorthError tC_WorthError s_2, v_2, fun j hj => ?_⟩
        rcases h4 j hj with rfl | rfl | rfl | rfl | rfl
        · exact kt_2_0
        · exact kt_2_1
        · exact kit_self
        · exact kt_2_3
        · exact kt_2_4
      · refine ⟨PySem.W.exm_ref eC_WorthError hd_WorthError tC_WorthError s_3, v_3, fun j hj => ?_⟩
        rcases h4 j hj with rfl | rfl | rfl | rfl | rfl
        · exact kt_3_0
        · exact kt_3_1
        · exact kt_3_2
        · exact kit_self
        · exact kt_3_4
      · exact absurd hi (by decide)
  have C_is_number := c_is_number (P := P) (w := w) (base := base) S_is_number m_gcd
  have C_checkedX := c_checkedX S_checked X_InvalidNumber G_init C_is_number
  have C_checked_signsX := c_csigns (P := P) (w := w) (base := base) S_checked_signs m_LETTERS X_InvalidSigns G_init
  have C_checked_signX := c_csign (P := P) (w := w) (base := base) S_checked_sign n_len X_UnknownSign G_init
  have C_checked_machineX := c_cmachine S_checked_machine n_len n_list X_InvalidMachine G_init C_checked_signsX C_checkedX C_checked_signX cls rfl rfl rfl rfl
  have C_steps_of := c_steps (P := P) (w := w) (base := base) S_steps_of m_lcm
  have Mk_Machine := c_minit Cm_Machine Mkf_Machine Fn_Machine___init__ Cl_Machine na_Machine n_list cls C_checked_machineX C_steps_of
  have C_deck := c_deck (P := P) (w := w) (base := base) S__law_deck n_int
  have C_draw := c_draw (P := P) (w := w) (base := base) S__law_draw n_int
  have C_gcd := c_gcd (P := P) (w := w) (base := base) S__law_gcd n_abs n_int
  have C_pair := c_pair S__law_pair C_gcd
  have C_alike : Cal P w K mg base CX0 5 "_law_alike" s__law_alike ["_law_found", "_law_due_here"] (spD K 2 (P_alike 5)) := c_alike S__law_alike n_isinstance n_list n_tuple n_len n_zip n_str n_bool n_int 5
  have C_signs := c_signs S__law_signs n_range n_len n_sorted C_draw
  have C_num := c_num S__law_number C_draw C_pair
  have C_machine := c_machine S__law_machine n_range n_len n_min C_draw C_signs C_num
  have C_wnum := c_wnum S__law_wrong_number C_draw
  have C_wsigns := c_wsigns S__law_wrong_signs n_len C_draw
  have C_wsign := c_wsign S__law_wrong_sign n_len C_draw
  have C_bent := c_bent S__law_bent n_len n_list C_draw C_num C_wnum C_wsigns C_wsign
  have C_aresigns := c_aresigns (P := P) (w := w) (base := base) S__law_are_signs n_range n_len
  have C_due := c_due S__law_due n_len C_aresigns C_gcd
  have C_told := c_told S__law_told n_isinstance n_len n_range n_ValueError X_InvalidSigns X_InvalidNumber X_InvalidMachine X_UnknownSign X_UnlikeSigns X_WorthError Gc cls rfl rfl rfl rfl rfl hex Mk_Machine
  have C_right := c_right S__law_is_right n_len n_list n_isinstance Cm_Machine Cl_Machine Gc haO_Machine hmO_Machine C_draw C_due C_told C_alike (c_msigns Pf_Machine_signs Fn_Machine_signs Cl_Machine na_Machine) (c_mbegin Pf_Machine_begin Fn_Machine_begin Cl_Machine na_Machine n_list) (c_mroads Pf_Machine_roads Fn_Machine_roads Cl_Machine na_Machine n_list) (c_mend Pf_Machine_end Fn_Machine_end Cl_Machine na_Machine n_list) (c_mlen Mt_Machine___len__ Cl_Machine na_Machine n_len)
  exact c_law S_law n_range C_deck C_draw C_machine C_bent C_right
end DL
open PySem PySem.W PyProof.Rows
set_option maxRecDepth 100000 in
set_option maxHeartbeats 0 in
theorem PySem.Challenge.cw_textworths_k03_machines_refused_holds : PySem.Challenge.rw_textworths_k03_machines_refused.Holds := by
  w_on; o_law; k_head; (case hw => w_witness2)
  k_fill
  refine L2.walk_ofB (n := 63) (k := 9) (x := "_law_script") (CX := fun _ => L2.CX0) (sp := fun w => DL.spD _ 1 DL.P_law) rfl (by decide) rfl ⟨rfl, by decide, by decide⟩ (fun w h Y => PySem.W.kIn_of Y) ?F (fun w H a ns hl hb hO hs => DL.sp_start (DL.law_end) H a ns hl hb hO hs) (fun _ _ _ _ _ z => z)
  case F =>
    intro w mg fa h KX G hmg
    refine' DL.all_mk KX G hmg ?a__wall ?l__wall ?q__wall ?k__wall ?a_lowest ?l_lowest ?q_lowest ?k_lowest ?a_is_number ?l_is_number ?q_is_number ?k_is_number ?a_checked ?l_checked ?q_checked ?k_checked ?a_integers_of ?l_integers_of ?q_integers_of ?k_integers_of ?a_checked_signs ?l_checked_signs ?q_checked_signs ?k_checked_signs ?a_checked_sign ?l_checked_sign ?q_checked_sign ?k_checked_sign ?a_known ?l_known ?q_known ?k_known ?a_checked_machine ?l_checked_machine ?q_checked_machine ?k_checked_machine ?a_steps_of ?l_steps_of ?q_steps_of ?k_steps_of ?a_integers_behind ?l_integers_behind ?q_integers_behind ?k_integers_behind ?a__law_deck ?l__law_deck ?q__law_deck ?k__law_deck ?a__law_draw ?l__law_draw ?q__law_draw ?k__law_draw ?a__law_gcd ?l__law_gcd ?q__law_gcd ?k__law_gcd ?a__law_pair ?l__law_pair ?q__law_pair ?k__law_pair ?a__law_alike ?l__law_alike ?q__law_alike ?k__law_alike ?a__law_signs ?l__law_signs ?q__law_signs ?k__law_signs ?a__law_number ?l__law_number ?q__law_number ?k__law_number ?a__law_machine ?l__law_machine ?q__law_machine ?k__law_machine ?a__law_wrong_signs ?l__law_wrong_signs ?q__law_wrong_signs ?k__law_wrong_signs ?a__law_wrong_number ?l__law_wrong_number ?q__law_wrong_number ?k__law_wrong_number ?a__law_wrong_sign ?l__law_wrong_sign ?q__law_wrong_sign ?k__law_wrong_sign ?a__law_bent ?l__law_bent ?q__law_bent ?k__law_bent ?a__law_are_signs ?l__law_are_signs ?q__law_are_signs ?k__law_are_signs ?a__law_due ?l__law_due ?q__law_due ?k__law_due ?a__law_told ?l__law_told ?q__law_told ?k__law_told ?a__law_is_right ?l__law_is_right ?q__law_is_right ?k__law_is_right ?a_law ?l_law ?q_law ?k_law ?z_abs ?z_int ?z_isinstance ?z_list ?z_tuple ?z_len ?z_zip ?z_str ?z_bool ?z_range ?z_ValueError ?z_sorted ?z_min ?z_gcd ?z_lcm ?z_LETTERS ?aC_WorthError ?xC_WorthError ?rC_WorthError ?sa_WorthError ?eC_WorthError ?tC_WorthError ?kC_WorthError ?nv_WorthError ?ga_WorthError ?gg_WorthError ?hd_WorthError ?ha_WorthError ?hm_WorthError ?iI_WorthError ?aC_InvalidNumber ?xC_InvalidNumber ?rC_InvalidNumber ?sa_InvalidNumber ?eC_InvalidNumber ?tC_InvalidNumber ?kC_InvalidNumber ?nv_InvalidNumber ?ga_InvalidNumber ?gg_InvalidNumber ?hd_InvalidNumber ?ha_InvalidNumber ?hm_InvalidNumber ?iI_InvalidNumber ?aC_InvalidSigns ?xC_InvalidSigns ?rC_InvalidSigns ?sa_InvalidSigns ?eC_InvalidSigns ?tC_InvalidSigns ?kC_InvalidSigns ?nv_InvalidSigns ?ga_InvalidSigns ?gg_InvalidSigns ?hd_InvalidSigns ?ha_InvalidSigns ?hm_InvalidSigns ?iI_InvalidSigns ?aC_UnknownSign ?xC_UnknownSign ?rC_UnknownSign ?sa_UnknownSign ?eC_UnknownSign ?tC_UnknownSign ?kC_UnknownSign ?nv_UnknownSign ?ga_UnknownSign ?gg_UnknownSign ?hd_UnknownSign ?ha_UnknownSign ?hm_UnknownSign ?iI_UnknownSign ?aC_InvalidMachine ?xC_InvalidMachine ?rC_InvalidMachine ?sa_InvalidMachine ?eC_InvalidMachine ?tC_InvalidMachine ?kC_InvalidMachine ?nv_InvalidMachine ?ga_InvalidMachine ?gg_InvalidMachine ?hd_InvalidMachine ?ha_InvalidMachine ?hm_InvalidMachine ?iI_InvalidMachine ?aC_UnlikeSigns ?xC_UnlikeSigns ?rC_UnlikeSigns ?sa_UnlikeSigns ?eC_UnlikeSigns ?tC_UnlikeSigns ?kC_UnlikeSigns ?nv_UnlikeSigns ?ga_UnlikeSigns ?gg_UnlikeSigns ?hd_UnlikeSigns ?ha_UnlikeSigns ?hm_UnlikeSigns ?iI_UnlikeSigns ?hn ?ht ?tI ?lI ?cI ?kI ?vV ?aO_Machine ?pgO_Machine ?hdO_Machine ?poO_Machine ?saO_Machine ?haO_Machine ?hmO_Machine ?na_signs_Machine ?na_begin_Machine ?na_roads_Machine ?na_end_Machine ?na_steps_Machine ?mkO_Machine ?kpO_Machine ?fi_Machine___init__ ?fn_Machine___init__ ?l_Machine___init__ ?q_Machine___init__ ?k_Machine___init__ ?fi_Machine___len__ ?fn_Machine___len__ ?l_Machine___len__ ?q_Machine___len__ ?k_Machine___len__ ?fi_Machine_signs ?gt_Machine_signs ?tk_Machine_signs ?rc_Machine_signs ?l_Machine_signs ?q_Machine_signs ?k_Machine_signs ?fi_Machine_begin ?gt_Machine_begin ?tk_Machine_begin ?rc_Machine_begin ?l_Machine_begin ?q_Machine_begin ?k_Machine_begin ?fi_Machine_roads ?gt_Machine_roads ?tk_Machine_roads ?rc_Machine_roads ?l_Machine_roads ?q_Machine_roads ?k_Machine_roads ?fi_Machine_end ?gt_Machine_end ?tk_Machine_end ?rc_Machine_end ?l_Machine_end ?q_Machine_end ?k_Machine_end ?s_0 ?v_0 ?kt_0_1 ?kt_0_2 ?kt_0_3 ?kt_0_4 ?s_1 ?v_1 ?kt_1_0 ?kt_1_2 ?kt_1_3 ?kt_1_4 ?s_2 ?v_2 ?kt_2_0 ?kt_2_1 ?kt_2_3 ?kt_2_4 ?s_3 ?v_3 ?kt_3_0 ?kt_3_1 ?kt_3_2 ?kt_3_4
    (case a__wall => k_is)
    (case l__wall => k_is)
    (case q__wall => k_is)
    (case k__wall => k_is)
    (case a_lowest => k_is)
    (case l_lowest => k_is)
    (case q_lowest => k_is)
    (case k_lowest => k_is)
    (case a_is_number => k_is)
    (case l_is_number => k_is)
    (case q_is_number => k_is)
    (case k_is_number => k_is)
    (case a_checked => k_is)
    (case l_checked => k_is)
    (case q_checked => k_is)
    (case k_checked => k_is)
    (case a_integers_of => k_is)
    (case l_integers_of => k_is)
    (case q_integers_of => k_is)
    (case k_integers_of => k_is)
    (case a_checked_signs => k_is)
    (case l_checked_signs => k_is)
    (case q_checked_signs => k_is)
    (case k_checked_signs => k_is)
    (case a_checked_sign => k_is)
    (case l_checked_sign => k_is)
    (case q_checked_sign => k_is)
    (case k_checked_sign => k_is)
    (case a_known => k_is)
    (case l_known => k_is)
    (case q_known => k_is)
    (case k_known => k_is)
    (case a_checked_machine => k_is)
    (case l_checked_machine => k_is)
    (case q_checked_machine => k_is)
    (case k_checked_machine => k_is)
    (case a_steps_of => k_is)
    (case l_steps_of => k_is)
    (case q_steps_of => k_is)
    (case k_steps_of => k_is)
    (case a_integers_behind => k_is)
    (case l_integers_behind => k_is)
    (case q_integers_behind => k_is)
    (case k_integers_behind => k_is)
    (case a__law_deck => k_is)
    (case l__law_deck => k_is)
    (case q__law_deck => k_is)
    (case k__law_deck => k_is)
    (case a__law_draw => k_is)
    (case l__law_draw => k_is)
    (case q__law_draw => k_is)
    (case k__law_draw => k_is)
    (case a__law_gcd => k_is)
    (case l__law_gcd => k_is)
    (case q__law_gcd => k_is)
    (case k__law_gcd => k_is)
    (case a__law_pair => k_is)
    (case l__law_pair => k_is)
    (case q__law_pair => k_is)
    (case k__law_pair => k_is)
    (case a__law_alike => k_is)
    (case l__law_alike => k_is)
    (case q__law_alike => k_is)
    (case k__law_alike => k_is)
    (case a__law_signs => k_is)
    (case l__law_signs => k_is)
    (case q__law_signs => k_is)
    (case k__law_signs => k_is)
    (case a__law_number => k_is)
    (case l__law_number => k_is)
    (case q__law_number => k_is)
    (case k__law_number => k_is)
    (case a__law_machine => k_is)
    (case l__law_machine => k_is)
    (case q__law_machine => k_is)
    (case k__law_machine => k_is)
    (case a__law_wrong_signs => k_is)
    (case l__law_wrong_signs => k_is)
    (case q__law_wrong_signs => k_is)
    (case k__law_wrong_signs => k_is)
    (case a__law_wrong_number => k_is)
    (case l__law_wrong_number => k_is)
    (case q__law_wrong_number => k_is)
    (case k__law_wrong_number => k_is)
    (case a__law_wrong_sign => k_is)
    (case l__law_wrong_sign => k_is)
    (case q__law_wrong_sign => k_is)
    (case k__law_wrong_sign => k_is)
    (case a__law_bent => k_is)
    (case l__law_bent => k_is)
    (case q__law_bent => k_is)
    (case k__law_bent => k_is)
    (case a__law_are_signs => k_is)
    (case l__law_are_signs => k_is)
    (case q__law_are_signs => k_is)
    (case k__law_are_signs => k_is)
    (case a__law_due => k_is)
    (case l__law_due => k_is)
    (case q__law_due => k_is)
    (case k__law_due => k_is)
    (case a__law_told => k_is)
    (case l__law_told => k_is)
    (case q__law_told => k_is)
    (case k__law_told => k_is)
    (case a__law_is_right => k_is)
    (case l__law_is_right => k_is)
    (case q__law_is_right => k_is)
    (case k__law_is_right => k_is)
    (case a_law => k_is)
    (case l_law => k_is)
    (case q_law => k_is)
    (case k_law => k_is)
    (case z_abs => k_is)
    (case z_int => k_is)
    (case z_isinstance => k_is)
    (case z_list => k_is)
    (case z_tuple => k_is)
    (case z_len => k_is)
    (case z_zip => k_is)
    (case z_str => k_is)
    (case z_bool => k_is)
    (case z_range => k_is)
    (case z_ValueError => k_is)
    (case z_sorted => k_is)
    (case z_min => k_is)
    (case z_gcd => k_is)
    (case z_lcm => k_is)
    (case z_LETTERS => k_is)
    (case aC_WorthError => k_is)
    (case xC_WorthError => k_is)
    (case rC_WorthError => decide +kernel)
    (case sa_WorthError => k_is)
    (case eC_WorthError => k_is)
    (case tC_WorthError => k_is)
    (case kC_WorthError => k_is)
    (case nv_WorthError => k_is)
    (case ga_WorthError => k_is)
    (case gg_WorthError => k_is)
    (case hd_WorthError => k_is)
    (case ha_WorthError => k_is)
    (case hm_WorthError => k_is)
    (case iI_WorthError => k_is)
    (case aC_InvalidNumber => k_is)
    (case xC_InvalidNumber => k_is)
    (case rC_InvalidNumber => decide +kernel)
    (case sa_InvalidNumber => k_is)
    (case eC_InvalidNumber => k_is)
    (case tC_InvalidNumber => k_is)
    (case kC_InvalidNumber => k_is)
    (case nv_InvalidNumber => k_is)
    (case ga_InvalidNumber => k_is)
    (case gg_InvalidNumber => k_is)
    (case hd_InvalidNumber => k_is)
    (case ha_InvalidNumber => k_is)
    (case hm_InvalidNumber => k_is)
    (case iI_InvalidNumber => k_is)
    (case aC_InvalidSigns => k_is)
    (case xC_InvalidSigns => k_is)
    (case rC_InvalidSigns => decide +kernel)
    (case sa_InvalidSigns => k_is)
    (case eC_InvalidSigns => k_is)
    (case tC_InvalidSigns => k_is)
    (case kC_InvalidSigns => k_is)
    (case nv_InvalidSigns => k_is)
    (case ga_InvalidSigns => k_is)
    (case gg_InvalidSigns => k_is)
    (case hd_InvalidSigns => k_is)
    (case ha_InvalidSigns => k_is)
    (case hm_InvalidSigns => k_is)
    (case iI_InvalidSigns => k_is)
    (case aC_UnknownSign => k_is)
    (case xC_UnknownSign => k_is)
    (case rC_UnknownSign => decide +kernel)
    (case sa_UnknownSign => k_is)
    (case eC_UnknownSign => k_is)
    (case tC_UnknownSign => k_is)
    (case kC_UnknownSign => k_is)
    (case nv_UnknownSign => k_is)
    (case ga_UnknownSign => k_is)
    (case gg_UnknownSign => k_is)
    (case hd_UnknownSign => k_is)
    (case ha_UnknownSign => k_is)
    (case hm_UnknownSign => k_is)
    (case iI_UnknownSign => k_is)
    (case aC_InvalidMachine => k_is)
    (case xC_InvalidMachine => k_is)
    (case rC_InvalidMachine => decide +kernel)
    (case sa_InvalidMachine => k_is)
    (case eC_InvalidMachine => k_is)
    (case tC_InvalidMachine => k_is)
    (case kC_InvalidMachine => k_is)
    (case nv_InvalidMachine => k_is)
    (case ga_InvalidMachine => k_is)
    (case gg_InvalidMachine => k_is)
    (case hd_InvalidMachine => k_is)
    (case ha_InvalidMachine => k_is)
    (case hm_InvalidMachine => k_is)
    (case iI_InvalidMachine => k_is)
    (case aC_UnlikeSigns => k_is)
    (case xC_UnlikeSigns => k_is)
    (case rC_UnlikeSigns => decide +kernel)
    (case sa_UnlikeSigns => k_is)
    (case eC_UnlikeSigns => k_is)
    (case tC_UnlikeSigns => k_is)
    (case kC_UnlikeSigns => k_is)
    (case nv_UnlikeSigns => k_is)
    (case ga_UnlikeSigns => k_is)
    (case gg_UnlikeSigns => k_is)
    (case hd_UnlikeSigns => k_is)
    (case ha_UnlikeSigns => k_is)
    (case hm_UnlikeSigns => k_is)
    (case iI_UnlikeSigns => k_is)
    (case hn => k_is)
    (case ht => k_is)
    (case tI => k_is)
    (case lI => k_is)
    (case cI => k_is)
    (case kI => k_is)
    (case vV => k_is)
    (case aO_Machine => k_is)
    (case pgO_Machine => k_is)
    (case hdO_Machine => k_is)
    (case poO_Machine => k_is)
    (case saO_Machine => k_is)
    (case haO_Machine => k_is)
    (case hmO_Machine => k_is)
    (case na_signs_Machine => k_is)
    (case na_begin_Machine => k_is)
    (case na_roads_Machine => k_is)
    (case na_end_Machine => k_is)
    (case na_steps_Machine => k_is)
    (case mkO_Machine => k_is)
    (case kpO_Machine => k_is)
    (case fi_Machine___init__ => k_is)
    (case fn_Machine___init__ => k_is)
    (case l_Machine___init__ => k_is)
    (case q_Machine___init__ => k_is)
    (case k_Machine___init__ => k_is)
    (case fi_Machine___len__ => k_is)
    (case fn_Machine___len__ => k_is)
    (case l_Machine___len__ => k_is)
    (case q_Machine___len__ => k_is)
    (case k_Machine___len__ => k_is)
    (case fi_Machine_signs => k_is)
    (case gt_Machine_signs => k_is)
    (case tk_Machine_signs => k_is)
    (case rc_Machine_signs => k_is)
    (case l_Machine_signs => k_is)
    (case q_Machine_signs => k_is)
    (case k_Machine_signs => k_is)
    (case fi_Machine_begin => k_is)
    (case gt_Machine_begin => k_is)
    (case tk_Machine_begin => k_is)
    (case rc_Machine_begin => k_is)
    (case l_Machine_begin => k_is)
    (case q_Machine_begin => k_is)
    (case k_Machine_begin => k_is)
    (case fi_Machine_roads => k_is)
    (case gt_Machine_roads => k_is)
    (case tk_Machine_roads => k_is)
    (case rc_Machine_roads => k_is)
    (case l_Machine_roads => k_is)
    (case q_Machine_roads => k_is)
    (case k_Machine_roads => k_is)
    (case fi_Machine_end => k_is)
    (case gt_Machine_end => k_is)
    (case tk_Machine_end => k_is)
    (case rc_Machine_end => k_is)
    (case l_Machine_end => k_is)
    (case q_Machine_end => k_is)
    (case k_Machine_end => k_is)
    (case s_0 => first | rfl | k_is)
    (case v_0 => kit_is)
    (case kt_0_1 => kit_is)
    (case kt_0_2 => kit_is)
    (case kt_0_3 => kit_is)
    (case kt_0_4 => kit_is)
    (case s_1 => first | rfl | k_is)
    (case v_1 => kit_is)
    (case kt_1_0 => kit_is)
    (case kt_1_2 => kit_is)
    (case kt_1_3 => kit_is)
    (case kt_1_4 => kit_is)
    (case s_2 => first | rfl | k_is)
    (case v_2 => kit_is)
    (case kt_2_0 => kit_is)
    (case kt_2_1 => kit_is)
    (case kt_2_3 => kit_is)
    (case kt_2_4 => kit_is)
    (case s_3 => first | rfl | k_is)
    (case v_3 => kit_is)
    (case kt_3_0 => kit_is)
    (case kt_3_1 => kit_is)
    (case kt_3_2 => kit_is)
    (case kt_3_4 => kit_is)
