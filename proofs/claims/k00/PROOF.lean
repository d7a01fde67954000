import PyProof.Rows.All
import Wide.All
import OpenK.AllK
import Wide.FinOn
import HandS.ForMost
import HandS.ForExc
import HandS.Walk
import HandS.Wide
import HandS.Gcd
import HandS.IsInst
import HandS.Zip
import HandS.ExcInit
import HandS.Style
import HandS.ExcIs
import HandS.ExcField
import HandS.ExcSuper
import KE.KExcIs
import HandS.More
import HandS.EndBits
import HandS.MakeKwOnly
import HandS.Property
import HandS.DictComp
import HandS.Star
import HandS.Flt
import PyProof.StrBlock2
import KE.SortData
import PyProof.ListStr
import HandS.Comp
import KE.KDictList
import HandS.Iter
import HandS.Conv
import PySem.Challenge.RW_textworths_k00_errors_hold_values
set_option Elab.async false
set_option linter.all false
set_option maxRecDepth 100000
set_option maxHeartbeats 2000001
namespace DL
open PySem PySem.Spec PyProof.Rows L2 RZ
/-- data as a whole: a value with all that hangs on it; .at a: the object at a, that may change -/
inductive D where
  | non | bl (b : Bool) | int (i : Int) | str (x : Str) | ty (n : String)
  | tup (ds : List D) | lst (ds : List D) | frz (ds : List D)
  | dct (ks : List Key) (ds : List D)
  | obj (C : Addr) (fs : List Str) (ds : List D)
  | exc (C : Addr) (d : D)
  | at (a : Addr)
/-- what may change -/
inductive MO where
  | lst (ds : List D) | dct (ks : List Key) (ds : List D) | obj (C : Addr) (fs : List Str) (ds : List D)
abbrev Mu := Addr → Option MO
abbrev Ro := List (Option D)
def mput (μ : Mu) (a : Addr) (o : MO) : Mu := fun b => if b = a then some o else μ b
def mcut (μ : Mu) (a : Addr) : Mu := fun b => if b = a then none else μ b
theorem mput_same {μ : Mu} {a : Addr} {o : MO} : mput μ a o a = some o := by unfold mput; rw [if_pos rfl]
theorem mput_ne {μ : Mu} {a b : Addr} {o : MO} (h : b ≠ a) : mput μ a o b = μ b := by unfold mput; rw [if_neg h]
theorem mcut_same {μ : Mu} {a : Addr} : mcut μ a a = none := by unfold mcut; rw [if_pos rfl]
theorem mcut_ne {μ : Mu} {a b : Addr} (h : b ≠ a) : mcut μ a b = μ b := by unfold mcut; rw [if_neg h]
theorem mput_none {μ : Mu} {a b : Addr} {o : MO} (h : mput μ a o b = none) : b ≠ a ∧ μ b = none := by
  by_cases e : b = a
  · rw [e, mput_same] at h; cases h
  · rw [mput_ne e] at h; exact ⟨e, h⟩

/-- an exception's object -/
def ExT (a C dx : Addr) : HO := .ext fun h => ∃ (oe : Obj) (vs : Array Value), h.get? a = some oe ∧ oe.cls = .ref C ∧ oe.dict = some dx ∧ oe.data = .fields vs

/-- something of the written part, or something tracked that stays as it is -/
def StS (K : PySem.W.Frag) (μ : Mu) (H : Hp) (p : Addr) (vs : List V) : Prop := (μ p = none ∧ Rd H p (.lst vs)) ∨
    ∃ (o : Obj) (its : Array Value) (n : Nat), K.lookup p = some o ∧ o.cls = .type "list" ∧ o.dict = none ∧ o.data = .seq its n ∧ its.size ≤ sizeLine ∧ Vals vs its.toList
def StT (K : PySem.W.Frag) (μ : Mu) (H : Hp) (p : Addr) (vs : List V) : Prop := (μ p = none ∧ Rd H p (.tup vs)) ∨
    ∃ (o : Obj) (its : Array Value) (n : Nat), K.lookup p = some o ∧ o.cls = .type "tuple" ∧ o.data = .seq its n ∧ its.size ≤ sizeLine ∧ Vals vs its.toList
theorem StS.sq {K : PySem.W.Frag} {μ : Mu} {H : Hp} {p : Addr} {vs : List V} (h : StS K μ H p vs) : SqL K H p vs := by
  rcases h with h | h
  · exact .inl h.2
  · exact .inr h
theorem StT.sq {K : PySem.W.Frag} {μ : Mu} {H : Hp} {p : Addr} {vs : List V} (h : StT K μ H p vs) : SqT K H p vs := by
  rcases h with h | h
  · exact .inl h.2
  · exact .inr h

mutual
/-- the value v is the data d -/
def Den (K : PySem.W.Frag) (μ : Mu) (H : Hp) : D → V → Prop
  | .non, v => v = .non
  | .bl b, v => v = .bl b
  | .int i, v => v = .int i
  | .str x, v => v = .str x
  | .ty n, v => v = .ty n
  | .at a, v => v = .ref a
  | .tup ds, v => ∃ p vs, v = .ref p ∧ StT K μ H p vs ∧ DenL K μ H ds vs
  | .lst ds, v => ∃ p vs, v = .ref p ∧ (μ p = none ∧ H p = some (.lst vs)) ∧ DenL K μ H ds vs
  | .frz ds, v => ∃ p vs, v = .ref p ∧ StS K μ H p vs ∧ DenL K μ H ds vs
  | .dct ks ds, v => ∃ p vs, v = .ref p ∧ (μ p = none ∧ H p = some (.dK (ks.zip vs))) ∧ ks.length = vs.length ∧ DenL K μ H ds vs
  | .obj C fs ds, v => ∃ p dx vs, v = .ref p ∧ (μ p = none ∧ H p = some (.ins C dx (fs.zip vs))) ∧ fs.length = vs.length ∧ DenL K μ H ds vs
  | .exc C d, v => ∃ p dx w, v = .ref p ∧ (μ p = none ∧ H p = some (ExT p C dx)) ∧ (μ dx = none ∧ H dx = some (.xd [(("value" : Str), w)])) ∧ Den K μ H d w
def DenL (K : PySem.W.Frag) (μ : Mu) (H : Hp) : List D → List V → Prop
  | [], vs => vs = []
  | d :: ds, vs => ∃ w ws, vs = w :: ws ∧ Den K μ H d w ∧ DenL K μ H ds ws
end

/-- what stays: all that is tracked and may not change -/
def Grow (μ : Mu) (H : Hp) (μ' : Mu) (H' : Hp) : Prop := ∀ b o, μ b = none → H b = some o → μ' b = none ∧ H' b = some o
theorem Grow.refl (μ : Mu) (H : Hp) : Grow μ H μ H := fun _ _ h e => ⟨h, e⟩
theorem Grow.trans {μ μ1 μ2 : Mu} {H H1 H2 : Hp} (a : Grow μ H μ1 H1) (b : Grow μ1 H1 μ2 H2) : Grow μ H μ2 H2 := fun p o h e => by
  obtain ⟨h1, e1⟩ := a p o h e
  exact b p o h1 e1
theorem Grow.rd {μ μ' : Mu} {H H' : Hp} (g : Grow μ H μ' H') {p : Addr} {u : HO} (h : μ p = none) (r : Rd H p u) : μ' p = none ∧ Rd H' p u := by
  rcases r with r | ⟨o, r⟩
  · exact ⟨(g p _ h r).1, .inl (g p _ h r).2⟩
  · exact ⟨(g p _ h r).1, .inr ⟨o, (g p _ h r).2⟩⟩
theorem Grow.stS {K : PySem.W.Frag} {μ μ' : Mu} {H H' : Hp} (g : Grow μ H μ' H') {p : Addr} {vs : List V} (h : StS K μ H p vs) : StS K μ' H' p vs := by
  rcases h with ⟨a, b⟩ | h
  · exact .inl (g.rd a b)
  · exact .inr h
theorem Grow.stT {K : PySem.W.Frag} {μ μ' : Mu} {H H' : Hp} (g : Grow μ H μ' H') {p : Addr} {vs : List V} (h : StT K μ H p vs) : StT K μ' H' p vs := by
  rcases h with ⟨a, b⟩ | h
  · exact .inl (g.rd a b)
  · exact .inr h
mutual
theorem Den.grow {K : PySem.W.Frag} {μ μ' : Mu} {H H' : Hp} (g : Grow μ H μ' H') : ∀ (d : D) (v : V), Den K μ H d v → Den K μ' H' d v
  | .non, v, h => by unfold Den at h ⊢; exact h
  | .bl b, v, h => by unfold Den at h ⊢; exact h
  | .int i, v, h => by unfold Den at h ⊢; exact h
  | .str x, v, h => by unfold Den at h ⊢; exact h
  | .ty n, v, h => by unfold Den at h ⊢; exact h
  | .at a, v, h => by unfold Den at h ⊢; exact h
  | .tup ds, v, h => by
    unfold Den at h ⊢
    obtain ⟨p, vs, e, s, l⟩ := h
    exact ⟨p, vs, e, g.stT s, DenL.grow g ds vs l⟩
  | .lst ds, v, h => by
    unfold Den at h ⊢
    obtain ⟨p, vs, e, s, l⟩ := h
    exact ⟨p, vs, e, g p _ s.1 s.2, DenL.grow g ds vs l⟩
  | .frz ds, v, h => by
    unfold Den at h ⊢
    obtain ⟨p, vs, e, s, l⟩ := h
    exact ⟨p, vs, e, g.stS s, DenL.grow g ds vs l⟩
  | .dct ks ds, v, h => by
    unfold Den at h ⊢
    obtain ⟨p, vs, e, s, n, l⟩ := h
    exact ⟨p, vs, e, g p _ s.1 s.2, n, DenL.grow g ds vs l⟩
  | .obj C fs ds, v, h => by
    unfold Den at h ⊢
    obtain ⟨p, dx, vs, e, s, n, l⟩ := h
    exact ⟨p, dx, vs, e, g p _ s.1 s.2, n, DenL.grow g ds vs l⟩
  | .exc C d, v, h => by
    unfold Den at h ⊢
    obtain ⟨p, dx, w, e, s, t, l⟩ := h
    exact ⟨p, dx, w, e, g p _ s.1 s.2, g dx _ t.1 t.2, Den.grow g d w l⟩
theorem DenL.grow {K : PySem.W.Frag} {μ μ' : Mu} {H H' : Hp} (g : Grow μ H μ' H') : ∀ (ds : List D) (vs : List V), DenL K μ H ds vs → DenL K μ' H' ds vs
  | [], vs, h => by unfold DenL at h ⊢; exact h
  | d :: ds, vs, h => by
    unfold DenL at h ⊢
    obtain ⟨w, ws, e, a, b⟩ := h
    exact ⟨w, ws, e, Den.grow g d w a, DenL.grow g ds ws b⟩
end
/-- fewer things that may change -/
def Less (μ μ' : Mu) : Prop := ∀ b, μ b = none → μ' b = none
mutual
theorem Den.less {K : PySem.W.Frag} {μ μ' : Mu} {H : Hp} (g : Less μ μ') : ∀ (d : D) (v : V), Den K μ H d v → Den K μ' H d v
  | .non, v, h => by unfold Den at h ⊢; exact h
  | .bl b, v, h => by unfold Den at h ⊢; exact h
  | .int i, v, h => by unfold Den at h ⊢; exact h
  | .str x, v, h => by unfold Den at h ⊢; exact h
  | .ty n, v, h => by unfold Den at h ⊢; exact h
  | .at a, v, h => by unfold Den at h ⊢; exact h
  | .tup ds, v, h => by
    unfold Den at h ⊢
    obtain ⟨p, vs, e, s, l⟩ := h
    refine ⟨p, vs, e, ?_, DenL.less g ds vs l⟩
    rcases s with ⟨a, b⟩ | s
    · exact .inl ⟨g _ a, b⟩
    · exact .inr s
  | .lst ds, v, h => by
    unfold Den at h ⊢
    obtain ⟨p, vs, e, s, l⟩ := h
    exact ⟨p, vs, e, ⟨g _ s.1, s.2⟩, DenL.less g ds vs l⟩
  | .frz ds, v, h => by
    unfold Den at h ⊢
    obtain ⟨p, vs, e, s, l⟩ := h
    refine ⟨p, vs, e, ?_, DenL.less g ds vs l⟩
    rcases s with ⟨a, b⟩ | s
    · exact .inl ⟨g _ a, b⟩
    · exact .inr s
  | .dct ks ds, v, h => by
    unfold Den at h ⊢
    obtain ⟨p, vs, e, s, n, l⟩ := h
    exact ⟨p, vs, e, ⟨g _ s.1, s.2⟩, n, DenL.less g ds vs l⟩
  | .obj C fs ds, v, h => by
    unfold Den at h ⊢
    obtain ⟨p, dx, vs, e, s, n, l⟩ := h
    exact ⟨p, dx, vs, e, ⟨g _ s.1, s.2⟩, n, DenL.less g ds vs l⟩
  | .exc C d, v, h => by
    unfold Den at h ⊢
    obtain ⟨p, dx, w, e, s, t, l⟩ := h
    exact ⟨p, dx, w, e, ⟨g _ s.1, s.2⟩, ⟨g _ t.1, t.2⟩, Den.less g d w l⟩
theorem DenL.less {K : PySem.W.Frag} {μ μ' : Mu} {H : Hp} (g : Less μ μ') : ∀ (ds : List D) (vs : List V), DenL K μ H ds vs → DenL K μ' H ds vs
  | [], vs, h => by unfold DenL at h ⊢; exact h
  | d :: ds, vs, h => by
    unfold DenL at h ⊢
    obtain ⟨w, ws, e, a, b⟩ := h
    exact ⟨w, ws, e, Den.less g d w a, DenL.less g ds ws b⟩
end

/-- the object at a is what the store says -/
def MoIs (K : PySem.W.Frag) (μ : Mu) (H : Hp) (a : Addr) : MO → Prop
  | .lst ds => ∃ vs, H a = some (.lst vs) ∧ DenL K μ H ds vs
  | .dct ks ds => ∃ vs, H a = some (.dK (ks.zip vs)) ∧ ks.length = vs.length ∧ DenL K μ H ds vs
  | .obj C fs ds => ∃ dx vs, H a = some (.ins C dx (fs.zip vs)) ∧ fs.length = vs.length ∧ DenL K μ H ds vs
def Mem (K : PySem.W.Frag) (μ : Mu) (H : Hp) : Prop := ∀ a o, μ a = some o → MoIs K μ H a o
/-- the slots -/
def EnvIs (K : PySem.W.Frag) (μ : Mu) (H : Hp) (ρ : Ro) (σ : L2.St) : Prop := σ.length = ρ.length ∧ ∀ (i : Nat) (d : D), ρ[i]? = some (some d) → ∃ v, σ[i]? = some (some v) ∧ Den K μ H d v

section
variable {K : PySem.W.Frag} {μ μ' : Mu} {H H' : Hp} {a : Addr} {ρ : Ro} {σ : L2.St}
theorem Mem.has (m : Mem K μ H) {o : MO} (h : μ a = some o) : ∃ u, H a = some u := by
  have q := m a o h
  cases o with
  | lst ds => obtain ⟨vs, e, _⟩ := q; exact ⟨_, e⟩
  | dct ks ds => obtain ⟨vs, e, _⟩ := q; exact ⟨_, e⟩
  | obj C fs ds => obtain ⟨dx, vs, e, _⟩ := q; exact ⟨_, e⟩
theorem Mem.free (m : Mem K μ H) (h : H a = none) : μ a = none := by
  cases e : μ a with
  | none => rfl
  | some o =>
    obtain ⟨u, q⟩ := m.has e
    rw [h] at q; cases q
theorem MoIs.grow (g : Grow μ H μ' H') {o : MO} (h : MoIs K μ H a o) (e : H' a = H a) : MoIs K μ' H' a o := by
  cases o with
  | lst ds => obtain ⟨vs, q, l⟩ := h; exact ⟨vs, e.trans q, DenL.grow g _ _ l⟩
  | dct ks ds => obtain ⟨vs, q, n, l⟩ := h; exact ⟨vs, e.trans q, n, DenL.grow g _ _ l⟩
  | obj C fs ds => obtain ⟨dx, vs, q, n, l⟩ := h; exact ⟨dx, vs, e.trans q, n, DenL.grow g _ _ l⟩
/-- a new object that is not to change -/
theorem Grow.new {o : HO} (h : H a = none) : Grow μ H μ (upd H a o) := fun b u hb e => ⟨hb, by rw [upd_ne (ne_of_none e h)]; exact e⟩
theorem Mem.new {o : HO} (m : Mem K μ H) (h : H a = none) : Mem K μ (upd H a o) := fun b u e => by
  obtain ⟨w, hw⟩ := m.has e
  exact (m b u e).grow (Grow.new h) (upd_ne (ne_of_none hw h))
/-- a new object that may change -/
theorem Grow.newM {o : HO} {mo : MO} (h : H a = none) : Grow μ H (mput μ a mo) (upd H a o) := fun b u hb e => by
  have ne := ne_of_none e h
  exact ⟨by rw [mput_ne ne]; exact hb, by rw [upd_ne ne]; exact e⟩
theorem Mem.newM {o : HO} {mo : MO} (m : Mem K μ H) (h : H a = none) (n : MoIs K (mput μ a mo) (upd H a o) a mo) : Mem K (mput μ a mo) (upd H a o) := fun b u e => by
  by_cases hb : b = a
  · subst hb
    rw [mput_same] at e; cases e; exact n
  · rw [mput_ne hb] at e
    obtain ⟨w, hw⟩ := m.has e
    exact (m b u e).grow (Grow.newM h) (upd_ne hb)
/-- something that may change does -/
theorem Grow.wr {o : HO} {mo mo' : MO} (h : μ a = some mo) : Grow μ H (mput μ a mo') (upd H a o) := fun b u hb e => by
  have ne : b ≠ a := fun z => by rw [z, h] at hb; cases hb
  exact ⟨by rw [mput_ne ne]; exact hb, by rw [upd_ne ne]; exact e⟩
theorem Mem.wr {o : HO} {mo mo' : MO} (m : Mem K μ H) (h : μ a = some mo) (n : MoIs K (mput μ a mo') (upd H a o) a mo') : Mem K (mput μ a mo') (upd H a o) := fun b u e => by
  by_cases hb : b = a
  · subst hb
    rw [mput_same] at e; cases e; exact n
  · rw [mput_ne hb] at e
    exact (m b u e).grow (Grow.wr h) (upd_ne hb)
theorem Less.cut : Less μ (mcut μ a) := fun b h => by
  by_cases e : b = a
  · rw [e, mcut_same]
  · rw [mcut_ne e]; exact h
theorem MoIs.less (g : Less μ μ') {o : MO} (h : MoIs K μ H a o) : MoIs K μ' H a o := by
  cases o with
  | lst ds => obtain ⟨vs, q, l⟩ := h; exact ⟨vs, q, DenL.less g _ _ l⟩
  | dct ks ds => obtain ⟨vs, q, n, l⟩ := h; exact ⟨vs, q, n, DenL.less g _ _ l⟩
  | obj C fs ds => obtain ⟨dx, vs, q, n, l⟩ := h; exact ⟨dx, vs, q, n, DenL.less g _ _ l⟩
theorem Mem.less (m : Mem K μ H) (g : Less μ μ') (h : ∀ b o, μ' b = some o → μ b = some o) : Mem K μ' H := fun b o e => (m b o (h b o e)).less g
theorem Mem.cut (m : Mem K μ H) : Mem K (mcut μ a) H := m.less Less.cut fun b o e => by
  by_cases h : b = a
  · rw [h, mcut_same] at e; cases e
  · rw [mcut_ne h] at e; exact e
theorem Grow.cut : Grow μ H (mcut μ a) H := fun b o h e => ⟨Less.cut b h, e⟩
/-- forgetting in the store: a Grow ahead of it stands -/
theorem EnvIs.grow (g : Grow μ H μ' H') (h : EnvIs K μ H ρ σ) : EnvIs K μ' H' ρ σ := ⟨h.1, fun i d e => by
  obtain ⟨v, q, r⟩ := h.2 i d e
  exact ⟨v, q, Den.grow g _ _ r⟩⟩
theorem EnvIs.less (g : Less μ μ') (h : EnvIs K μ H ρ σ) : EnvIs K μ' H ρ σ := ⟨h.1, fun i d e => by
  obtain ⟨v, q, r⟩ := h.2 i d e
  exact ⟨v, q, Den.less g _ _ r⟩⟩
theorem EnvIs.set (h : EnvIs K μ H ρ σ) {d : D} {v : V} (r : Den K μ H d v) (i : Nat) : EnvIs K μ H (ρ.set i (some d)) (σ.set i (some v)) := ⟨by rw [List.length_set, List.length_set]; exact h.1, fun j e q => by
  by_cases hj : i = j
  · subst hj
    by_cases hl : i < ρ.length
    · rw [List.getElem?_set_self hl] at q
      cases q
      exact ⟨v, by rw [List.getElem?_set_self (by rw [h.1]; exact hl)], r⟩
    · rw [List.getElem?_eq_none (by rw [List.length_set]; omega)] at q
      cases q
  · rw [List.getElem?_set_ne hj] at q ⊢
    exact h.2 j e q⟩
theorem EnvIs.unset (h : EnvIs K μ H ρ σ) (i : Nat) : EnvIs K μ H (ρ.set i none) (σ.set i none) := ⟨by rw [List.length_set, List.length_set]; exact h.1, fun j e q => by
  by_cases hj : i = j
  · subst hj
    by_cases hl : i < ρ.length
    · rw [List.getElem?_set_self hl] at q
      cases q
    · rw [List.getElem?_eq_none (by rw [List.length_set]; omega)] at q
      cases q
  · rw [List.getElem?_set_ne hj] at q ⊢
    exact h.2 j e q⟩
theorem DenL.length : ∀ {ds : List D} {vs : List V}, DenL K μ H ds vs → ds.length = vs.length
  | [], vs, h => by unfold DenL at h; rw [h] <;> rfl
  | d :: ds, vs, h => by
    unfold DenL at h
    obtain ⟨w, ws, e, _, b⟩ := h
    rw [e, List.length_cons, List.length_cons, DenL.length b]
theorem DenL.get : ∀ {ds : List D} {vs : List V} {i : Nat} {d : D}, DenL K μ H ds vs → ds[i]? = some d → ∃ v, vs[i]? = some v ∧ Den K μ H d v
  | [], vs, i, d, h, e => by simp at e
  | x :: ds, vs, 0, d, h, e => by
    unfold DenL at h
    obtain ⟨w, ws, q, a, b⟩ := h
    have e' : x = d := by simpa using e
    subst e'
    exact ⟨w, by rw [q]; rfl, a⟩
  | x :: ds, vs, i + 1, d, h, e => by
    unfold DenL at h
    obtain ⟨w, ws, q, a, b⟩ := h
    obtain ⟨v, h1, h2⟩ := DenL.get (i := i) (d := d) b (by simpa using e)
    exact ⟨v, by rw [q]; simpa using h1, h2⟩
theorem DenL.at : ∀ {ds : List D} {vs : List V} {i : Nat} {v : V}, DenL K μ H ds vs → vs[i]? = some v → ∃ d, ds[i]? = some d ∧ Den K μ H d v := fun {ds vs i v} h e => by
  have hl := h.length
  have hi : i < vs.length := (List.getElem?_eq_some_iff.mp e).1
  obtain ⟨v', h1, h2⟩ := h.get (i := i) (d := ds[i]'(by omega)) (by simp)
  rw [e] at h1
  cases h1
  exact ⟨_, List.getElem?_eq_getElem (by omega), h2⟩
theorem DenL.nil : DenL K μ H [] [] := by unfold DenL; rfl
theorem DenL.cons {d : D} {ds : List D} {v : V} {vs : List V} (a : Den K μ H d v) (b : DenL K μ H ds vs) : DenL K μ H (d :: ds) (v :: vs) := by
  unfold DenL; exact ⟨v, vs, rfl, a, b⟩
theorem DenL.append : ∀ {ds es : List D} {vs ws : List V}, DenL K μ H ds vs → DenL K μ H es ws → DenL K μ H (ds ++ es) (vs ++ ws)
  | [], es, vs, ws, h, k => by unfold DenL at h; rw [h]; exact k
  | d :: ds, es, vs, ws, h, k => by
    unfold DenL at h
    obtain ⟨w, us, e, a, b⟩ := h
    rw [e]
    exact DenL.cons a (DenL.append b k)
theorem DenL.set {d : D} {v : V} (r : Den K μ H d v) : ∀ {ds : List D} {vs : List V} (i : Nat), DenL K μ H ds vs → DenL K μ H (ds.set i d) (vs.set i v)
  | [], vs, i, h => by unfold DenL at h; rw [h]; exact DenL.nil
  | x :: ds, vs, 0, h => by
    unfold DenL at h
    obtain ⟨w, us, e, a, b⟩ := h
    rw [e]; exact DenL.cons r b
  | x :: ds, vs, i + 1, h => by
    unfold DenL at h
    obtain ⟨w, us, e, a, b⟩ := h
    rw [e]; exact DenL.cons a (DenL.set r i b)
end
abbrev XD := Mu → Ro → Addr → D → Prop
abbrev DP := Mu → D → Prop
/-- the wish about exceptions, over data -/
def LiftX (K : PySem.W.Frag) (μ : Mu) (H : Hp) (X : XD) (W : WX) : Prop := ∀ μ' ρ' C d dx v σ' H', X μ' ρ' C d → Grow μ H μ' H' → Mem K μ' H' → EnvIs K μ' H' ρ' σ' → μ' dx = none → H' dx = some (.xd [(("value" : Str), v)]) → Den K μ' H' d v → W (.ref C) (some dx) σ' H'
def EvX (K : PySem.W.Frag) (W : WX) (X : XD) (μ : Mu) (ρ : Ro) (te : TE) (Φ : DP) : Prop := ∀ (σ : L2.St) (H : Hp) (Q : VK), Mem K μ H → EnvIs K μ H ρ σ → LiftX K μ H X W → (∀ μ' d v H', Φ μ' d → Grow μ H μ' H' → Mem K μ' H' → Den K μ' H' d v → Q v H') → te σ H Q
def EvB (K : PySem.W.Frag) (W : WX) (X : XD) (μ : Mu) (ρ : Ro) (tt : TT) (Φ : Mu → Bool → Prop) : Prop := ∀ (σ : L2.St) (H : Hp) (Q : Bool → Hp → Prop), Mem K μ H → EnvIs K μ H ρ σ → LiftX K μ H X W → (∀ μ' b H', Φ μ' b → Grow μ H μ' H' → Mem K μ' H' → Q b H') → tt σ H Q
def EvL (K : PySem.W.Frag) (W : WX) (X : XD) (μ : Mu) (ρ : Ro) (ta : TA) (Φ : Mu → List D → Prop) : Prop := ∀ (σ : L2.St) (H : Hp) (Q : List V → Hp → Prop), Mem K μ H → EnvIs K μ H ρ σ → LiftX K μ H X W → (∀ μ' ds vs H', Φ μ' ds → Grow μ H μ' H' → Mem K μ' H' → DenL K μ' H' ds vs → Q vs H') → ta σ H Q
/-- a two-place operation, a call of a built-in, over data -/
def OpX (K : PySem.W.Frag) (r : R2) (μ : Mu) (x y : D) (Φ : DP) : Prop := ∀ (H : Hp) (v w : V) (Q : VK), Mem K μ H → Den K μ H x v → Den K μ H y w → (∀ μ' d u H', Φ μ' d → Grow μ H μ' H' → Mem K μ' H' → Den K μ' H' d u → Q u H') → r v w H Q
def UnX (K : PySem.W.Frag) (r : V → Hp → VK → Prop) (μ : Mu) (x : D) (Φ : DP) : Prop := ∀ (H : Hp) (v : V) (Q : VK), Mem K μ H → Den K μ H x v → (∀ μ' d u H', Φ μ' d → Grow μ H μ' H' → Mem K μ' H' → Den K μ' H' d u → Q u H') → r v H Q
def CaX (K : PySem.W.Frag) (r : List V → Hp → VK → Prop) (μ : Mu) (xs : List D) (Φ : DP) : Prop := ∀ (H : Hp) (vs : List V) (Q : VK), Mem K μ H → DenL K μ H xs vs → (∀ μ' d u H', Φ μ' d → Grow μ H μ' H' → Mem K μ' H' → Den K μ' H' d u → Q u H') → r vs H Q
/-- what is wanted behind a statement, over data -/
structure ED where
  nx : Mu → Ro → Prop
  rt : DP
  bk : Mu → Ro → Prop := fun _ _ => False
  ct : Mu → Ro → Prop := fun _ _ => False
structure Lift (K : PySem.W.Frag) (μ : Mu) (H : Hp) (E : ED) (D : Ends) : Prop where
  nx : ∀ μ' ρ' σ' H', E.nx μ' ρ' → Grow μ H μ' H' → Mem K μ' H' → EnvIs K μ' H' ρ' σ' → D.nx σ' H'
  rt : ∀ μ' d v H', E.rt μ' d → Grow μ H μ' H' → Mem K μ' H' → Den K μ' H' d v → D.rt v H'
  bk : ∀ μ' ρ' σ' H', E.bk μ' ρ' → Grow μ H μ' H' → Mem K μ' H' → EnvIs K μ' H' ρ' σ' → D.bk σ' H'
  ct : ∀ μ' ρ' σ' H', E.ct μ' ρ' → Grow μ H μ' H' → Mem K μ' H' → EnvIs K μ' H' ρ' σ' → D.ct σ' H'
def GS (K : PySem.W.Frag) (W : WX) (X : XD) (μ : Mu) (ρ : Ro) (t : TS) (E : ED) : Prop := ∀ (σ : L2.St) (H : Hp) (Dd : Ends), Mem K μ H → EnvIs K μ H ρ σ → LiftX K μ H X W → Lift K μ H E Dd → t Dd σ H
/-- a target -/
def TgX (K : PySem.W.Frag) (W : WX) (X : XD) (μ : Mu) (ρ : Ro) (g : TG) (d : D) (Φ : Mu → Ro → Prop) : Prop := ∀ (σ : L2.St) (H : Hp) (v : V) (Q : L2.St → Hp → Prop), Mem K μ H → EnvIs K μ H ρ σ → LiftX K μ H X W → Den K μ H d v → (∀ μ' ρ' σ' H', Φ μ' ρ' → Grow μ H μ' H' → Mem K μ' H' → EnvIs K μ' H' ρ' σ' → Q σ' H') → g v σ H Q
def TgsX (K : PySem.W.Frag) (W : WX) (X : XD) (μ : Mu) (ρ : Ro) (g : TGs) (ds : List D) (Φ : Mu → Ro → Prop) : Prop := ∀ (σ : L2.St) (H : Hp) (vs : List V) (Q : L2.St → Hp → Prop), Mem K μ H → EnvIs K μ H ρ σ → LiftX K μ H X W → DenL K μ H ds vs → (∀ μ' ρ' σ' H', Φ μ' ρ' → Grow μ H μ' H' → Mem K μ' H' → EnvIs K μ' H' ρ' σ' → Q σ' H') → g vs σ H Q

section
variable {K : PySem.W.Frag} {W : WX} {X : XD} {μ μ' : Mu} {H H' : Hp} {ρ : Ro} {E : ED} {Dd : Ends} {ta tb te tx : TE} {tt tu : TT} {Φ : DP} {Ψ : Mu → Bool → Prop}
theorem LiftX.grow (l : LiftX K μ H X W) (g : Grow μ H μ' H') : LiftX K μ' H' X W := fun m r C d dx v s h x gr => l m r C d dx v s h x (g.trans gr)
theorem Lift.grow (l : Lift K μ H E Dd) (g : Grow μ H μ' H') : Lift K μ' H' E Dd :=
  ⟨fun m r s h x gr => l.nx m r s h x (g.trans gr), fun m r s h x gr => l.rt m r s h x (g.trans gr), fun m r s h x gr => l.bk m r s h x (g.trans gr), fun m r s h x gr => l.ct m r s h x (g.trans gr)⟩
/-! ### expressions -/
theorem evx_var {i : Nat} {d : D} (h : ρ[i]? = some (some d)) (q : Φ μ d) : EvX K W X μ ρ (tVar i) Φ := fun σ H Q m e _ k => by
  obtain ⟨v, h1, h2⟩ := e.2 i d h
  exact ⟨v, h1, k μ d v H q (Grow.refl _ _) m h2⟩
theorem evx_int {n : Int} (q : Φ μ (.int n)) : EvX K W X μ ρ (tC (.int n)) Φ := fun σ H Q m _ _ k => k μ _ _ H q (Grow.refl _ _) m (by unfold Den; rfl)
theorem evx_str {n : Str} (q : Φ μ (.str n)) : EvX K W X μ ρ (tC (.str n)) Φ := fun σ H Q m _ _ k => k μ _ _ H q (Grow.refl _ _) m (by unfold Den; rfl)
theorem evx_bl {n : Bool} (q : Φ μ (.bl n)) : EvX K W X μ ρ (tC (.bl n)) Φ := fun σ H Q m _ _ k => k μ _ _ H q (Grow.refl _ _) m (by unfold Den; rfl)
theorem evx_non (q : Φ μ .non) : EvX K W X μ ρ (tC .non) Φ := fun σ H Q m _ _ k => k μ _ _ H q (Grow.refl _ _) m (by unfold Den; rfl)
theorem evx_ty {n : String} (q : Φ μ (.ty n)) : EvX K W X μ ρ (tC (.ty n)) Φ := fun σ H Q m _ _ k => k μ _ _ H q (Grow.refl _ _) m (by unfold Den; rfl)
/-- the address of something of the module: a class, a def -/
theorem evx_at {a : Addr} (q : Φ μ (.at a)) : EvX K W X μ ρ (tC (.ref a)) Φ := fun σ H Q m _ _ k => k μ _ _ H q (Grow.refl _ _) m (by unfold Den; rfl)
theorem EvX.imp {Φ' : DP} (h : EvX K W X μ ρ te Φ) (i : ∀ m d, Φ m d → Φ' m d) : EvX K W X μ ρ te Φ' := fun σ H Q m e l k => h σ H Q m e l fun m' d v H' p => k m' d v H' (i m' d p)
theorem evx_op {r : R2} (h : EvX K W X μ ρ ta fun μ1 x => EvX K W X μ1 ρ tb fun μ2 y => OpX K r μ2 x y Φ) : EvX K W X μ ρ (tOp r ta tb) Φ := fun σ H Q m e l k =>
  h σ H _ m e l fun μ1 x v H1 h1 g1 m1 d1 => h1 σ H1 _ m1 (e.grow g1) (l.grow g1) fun μ2 y w H2 h2 g2 m2 d2 => h2 H2 v w Q m2 (Den.grow g2 _ _ d1) d2 fun μ' d u H' p g => k μ' d u H' p ((g1.trans g2).trans g)
theorem evx_un {r : V → Hp → VK → Prop} (h : EvX K W X μ ρ ta fun μ1 x => UnX K r μ1 x Φ) : EvX K W X μ ρ (tUn r ta) Φ := fun σ H Q m e l k =>
  h σ H _ m e l fun μ1 x v H1 h1 g1 m1 d1 => h1 H1 v Q m1 d1 fun μ' d u H' p g => k μ' d u H' p (g1.trans g)
theorem evl_nil {Φ : Mu → List D → Prop} (h : Φ μ []) : EvL K W X μ ρ tNil Φ := fun σ H Q m e l k => k μ [] [] H h (Grow.refl _ _) m DenL.nil
theorem evl_cons {tr : TA} {Φ : Mu → List D → Prop} (h : EvX K W X μ ρ te fun μ1 x => EvL K W X μ1 ρ tr fun μ2 ds => Φ μ2 (x :: ds)) : EvL K W X μ ρ (tCons te tr) Φ := fun σ H Q m e l k =>
  h σ H _ m e l fun μ1 x v H1 h1 g1 m1 d1 => h1 σ H1 _ m1 (e.grow g1) (l.grow g1) fun μ2 ds vs H2 h2 g2 m2 d2 => k μ2 _ _ H2 h2 (g1.trans g2) m2 (DenL.cons (Den.grow g2 _ _ d1) d2)
theorem evx_cb {r : List V → Hp → VK → Prop} {t : TA} (h : EvL K W X μ ρ t fun μ1 ds => CaX K r μ1 ds Φ) : EvX K W X μ ρ (tCB r t) Φ := fun σ H Q m e l k =>
  h σ H _ m e l fun μ1 ds vs H1 h1 g1 m1 d1 => h1 H1 vs Q m1 d1 fun μ' d u H' p g => k μ' d u H' p (g1.trans g)
/-! ### displays -/
theorem evx_tup {t : TA} (h : EvL K W X μ ρ t fun μ1 ds => ds.length ≤ 1000 ∧ Φ μ1 (.tup ds)) : EvX K W X μ ρ (tTup t) Φ := fun σ H Q m e l k =>
  h σ H _ m e l fun μ1 ds vs H1 h1 g1 m1 d1 => ⟨by rw [← d1.length]; exact Nat.le_trans h1.1 (by decide), fun p hp => k μ1 _ _ _ h1.2 (g1.trans (Grow.new hp)) (m1.new hp) (by
    unfold Den
    exact ⟨p, vs, rfl, .inl ⟨m1.free hp, .inl upd_same⟩, DenL.grow (Grow.new hp) _ _ d1⟩)⟩
theorem evx_lst {t : TA} (h : EvL K W X μ ρ t fun μ1 ds => ds.length ≤ 1000 ∧ Φ μ1 (.lst ds)) : EvX K W X μ ρ (tLst t) Φ := fun σ H Q m e l k =>
  h σ H _ m e l fun μ1 ds vs H1 h1 g1 m1 d1 => ⟨by rw [← d1.length]; exact Nat.le_trans h1.1 (by decide), fun p hp => k μ1 _ _ _ h1.2 (g1.trans (Grow.new hp)) (m1.new hp) (by
    unfold Den
    exact ⟨p, vs, rfl, ⟨m1.free hp, upd_same⟩, DenL.grow (Grow.new hp) _ _ d1⟩)⟩
/-- a list that will change -/
theorem evx_lstM {t : TA} (h : EvL K W X μ ρ t fun μ1 ds => ds.length ≤ 1000 ∧ ∀ p, μ1 p = none → Φ (mput μ1 p (.lst ds)) (.at p)) : EvX K W X μ ρ (tLst t) Φ := fun σ H Q m e l k =>
  h σ H _ m e l fun μ1 ds vs H1 h1 g1 m1 d1 => ⟨by rw [← d1.length]; exact Nat.le_trans h1.1 (by decide), fun p hp => k _ _ _ _ (h1.2 p (m1.free hp)) (g1.trans (Grow.newM hp)) (m1.newM hp ⟨vs, upd_same, DenL.grow (Grow.newM hp) _ _ d1⟩) (by unfold Den; rfl)⟩
/-! ### tests -/
theorem EvB.imp {Ψ' : Mu → Bool → Prop} (h : EvB K W X μ ρ tt Ψ) (i : ∀ m d, Ψ m d → Ψ' m d) : EvB K W X μ ρ tt Ψ' := fun σ H Q m e l k => h σ H Q m e l fun m' d H' p => k m' d H' (i m' d p)
theorem evb_test (h : EvX K W X μ ρ te fun μ1 d => ∃ b, d = .bl b ∧ Ψ μ1 b) : EvB K W X μ ρ (tTest te) Ψ := fun σ H Q m e l k =>
  h σ H _ m e l fun μ1 d v H1 ⟨b, hd, hp⟩ g1 m1 d1 => ⟨b, by subst hd; unfold Den at d1; exact d1, k μ1 b H1 hp g1 m1⟩
theorem evb_B (h : EvX K W X μ ρ te fun μ1 d => ∃ b, d = .bl b ∧ Ψ μ1 b) : EvB K W X μ ρ (tB te) Ψ := fun σ H Q m e l k =>
  h σ H _ m e l fun μ1 d v H1 ⟨b, hd, hp⟩ g1 m1 d1 => ⟨b, by subst hd; unfold Den at d1; exact d1, k μ1 b H1 hp g1 m1⟩
theorem evb_and (h : EvB K W X μ ρ tt fun μ1 b => if b = true then EvB K W X μ1 ρ tu Ψ else Ψ μ1 false) : EvB K W X μ ρ (tAnd tt tu) Ψ := fun σ H Q m e l k =>
  h σ H _ m e l fun μ1 b H1 h1 g1 m1 => by
    cases b with
    | true => rw [if_pos rfl] at h1 ⊢; exact h1 σ H1 Q m1 (e.grow g1) (l.grow g1) fun μ' b H' p g => k μ' b H' p (g1.trans g)
    | false => rw [if_neg (by decide)] at h1 ⊢; exact k μ1 _ H1 h1 g1 m1
theorem evb_or (h : EvB K W X μ ρ tt fun μ1 b => if b = true then Ψ μ1 true else EvB K W X μ1 ρ tu Ψ) : EvB K W X μ ρ (tOr tt tu) Ψ := fun σ H Q m e l k =>
  h σ H _ m e l fun μ1 b H1 h1 g1 m1 => by
    cases b with
    | false => rw [if_neg (by decide)] at h1 ⊢; exact h1 σ H1 Q m1 (e.grow g1) (l.grow g1) fun μ' b H' p g => k μ' b H' p (g1.trans g)
    | true => rw [if_pos rfl] at h1 ⊢; exact k μ1 _ H1 h1 g1 m1
theorem evb_not (h : EvB K W X μ ρ tt fun μ1 b => Ψ μ1 (!b)) : EvB K W X μ ρ (tNot tt) Ψ := fun σ H Q m e l k => h σ H _ m e l fun μ1 b H1 h1 g1 m1 => k μ1 _ H1 h1 g1 m1
theorem evx_andV (h : EvX K W X μ ρ ta fun μ1 d => ∃ b, d = .bl b ∧ if b = true then EvX K W X μ1 ρ tb Φ else Φ μ1 (.bl false)) : EvX K W X μ ρ (tAndV ta tb) Φ := fun σ H Q m e l k =>
  h σ H _ m e l fun μ1 d v H1 ⟨b, hd, h1⟩ g1 m1 d1 => ⟨b, by subst hd; unfold Den at d1; exact d1, by
    cases b with
    | true => rw [if_pos rfl] at h1 ⊢; exact h1 σ H1 Q m1 (e.grow g1) (l.grow g1) fun μ' b v H' p g => k μ' b v H' p (g1.trans g)
    | false => rw [if_neg (by decide)] at h1 ⊢; exact k μ1 _ _ H1 h1 g1 m1 (by unfold Den; rfl)⟩
theorem evx_orV (h : EvX K W X μ ρ ta fun μ1 d => ∃ b, d = .bl b ∧ if b = true then Φ μ1 (.bl true) else EvX K W X μ1 ρ tb Φ) : EvX K W X μ ρ (tOrV ta tb) Φ := fun σ H Q m e l k =>
  h σ H _ m e l fun μ1 d v H1 ⟨b, hd, h1⟩ g1 m1 d1 => ⟨b, by subst hd; unfold Den at d1; exact d1, by
    cases b with
    | false => rw [if_neg (by decide)] at h1 ⊢; exact h1 σ H1 Q m1 (e.grow g1) (l.grow g1) fun μ' b v H' p g => k μ' b v H' p (g1.trans g)
    | true => rw [if_pos rfl] at h1 ⊢; exact k μ1 _ _ H1 h1 g1 m1 (by unfold Den; rfl)⟩
theorem evx_notV (h : EvX K W X μ ρ ta fun μ1 d => ∃ b, d = .bl b ∧ Φ μ1 (.bl (!b))) : EvX K W X μ ρ (tNotV ta) Φ := fun σ H Q m e l k =>
  h σ H _ m e l fun μ1 d v H1 ⟨b, hd, h1⟩ g1 m1 d1 => ⟨b, by subst hd; unfold Den at d1; exact d1, k μ1 _ _ H1 h1 g1 m1 (by unfold Den; rfl)⟩
theorem evx_if (h : EvB K W X μ ρ tt fun μ1 b => if b = true then EvX K W X μ1 ρ ta Φ else EvX K W X μ1 ρ tb Φ) : EvX K W X μ ρ (tIf tt ta tb) Φ := fun σ H Q m e l k =>
  h σ H _ m e l fun μ1 b H1 h1 g1 m1 => by
    cases b with
    | true => rw [if_pos rfl] at h1 ⊢; exact h1 σ H1 Q m1 (e.grow g1) (l.grow g1) fun μ' b v H' p g => k μ' b v H' p (g1.trans g)
    | false => rw [if_neg (by decide)] at h1 ⊢; exact h1 σ H1 Q m1 (e.grow g1) (l.grow g1) fun μ' b v H' p g => k μ' b v H' p (g1.trans g)
/-! ### statements -/
variable {t u : TS} {g : TG}
theorem GS.imp {E' : ED} (h : GS K W X μ ρ t E) (h1 : ∀ m r, E.nx m r → E'.nx m r) (h2 : ∀ m r, E.rt m r → E'.rt m r) (h3 : ∀ m r, E.bk m r → E'.bk m r) (h4 : ∀ m r, E.ct m r → E'.ct m r) : GS K W X μ ρ t E' := fun σ H D m e l k =>
  h σ H D m e l ⟨fun m r s h x => k.nx m r s h (h1 m r x), fun m r s h x => k.rt m r s h (h2 m r x), fun m r s h x => k.bk m r s h (h3 m r x), fun m r s h x => k.ct m r s h (h4 m r x)⟩
theorem gs_seq (h : GS K W X μ ρ t { E with nx := fun μ1 ρ1 => GS K W X μ1 ρ1 u E }) : GS K W X μ ρ (tSeq t u) E := fun σ H D m e l k =>
  h σ H { D with nx := u D } m e l ⟨fun m' r s h x gr mm ee => x s h D mm ee (l.grow gr) (k.grow gr), k.rt, k.bk, k.ct⟩
theorem gs_next (h : E.nx μ ρ) : GS K W X μ ρ tNext E := fun σ H D m e _ k => k.nx μ ρ σ H h (Grow.refl _ _) m e
theorem gs_break (h : E.bk μ ρ) : GS K W X μ ρ tBreak E := fun σ H D m e _ k => k.bk μ ρ σ H h (Grow.refl _ _) m e
theorem gs_cont (h : E.ct μ ρ) : GS K W X μ ρ tCont E := fun σ H D m e _ k => k.ct μ ρ σ H h (Grow.refl _ _) m e
theorem gs_ret (h : EvX K W X μ ρ te E.rt) : GS K W X μ ρ (tRet te) E := fun σ H D m e l k => h σ H _ m e l fun μ' d v H' p g mm dd => k.rt μ' d v H' p g mm dd
theorem gs_retN (h : E.rt μ .non) : GS K W X μ ρ tRetN E := fun σ H D m e l k => k.rt μ .non .non H h (Grow.refl _ _) m (by unfold Den; rfl)
theorem gs_drop (h : EvX K W X μ ρ te fun μ1 _ => E.nx μ1 ρ) : GS K W X μ ρ (tDrop te) E := fun σ H D m e l k => h σ H _ m e l fun μ' d v H' p g mm dd => k.nx μ' ρ σ H' p g mm (e.grow g)
theorem gs_if (h : EvB K W X μ ρ tt fun μ1 b => if b = true then GS K W X μ1 ρ t E else GS K W X μ1 ρ u E) : GS K W X μ ρ (tIfS tt t u) E := fun σ H D m e l k =>
  h σ H _ m e l fun μ1 b H1 h1 g1 m1 => by
    cases b with
    | true => rw [if_pos rfl] at h1 ⊢; exact h1 σ H1 D m1 (e.grow g1) (l.grow g1) (k.grow g1)
    | false => rw [if_neg (by decide)] at h1 ⊢; exact h1 σ H1 D m1 (e.grow g1) (l.grow g1) (k.grow g1)
theorem gs_asg (h : EvX K W X μ ρ te fun μ1 d => TgX K W X μ1 ρ g d E.nx) : GS K W X μ ρ (tAsg te g) E := fun σ H D m e l k =>
  h σ H _ m e l fun μ1 d v H1 h1 g1 m1 d1 => h1 σ H1 v _ m1 (e.grow g1) (l.grow g1) d1 fun μ' ρ' σ' H' p g' mm ee => k.nx μ' ρ' σ' H' p (g1.trans g') mm ee
theorem tgx_name {i : Nat} {d : D} {Φ : Mu → Ro → Prop} (h : Φ μ (ρ.set i (some d))) : TgX K W X μ ρ (gName i) d Φ := fun σ H v Q m e _ dd k => k μ _ _ H h (Grow.refl _ _) m (e.set dd i)
theorem tgsx_nil {Φ : Mu → Ro → Prop} (h : Φ μ ρ) : TgsX K W X μ ρ gNil [] Φ := fun σ H vs Q m e _ dd k => ⟨by unfold DenL at dd; exact dd, k μ ρ σ H h (Grow.refl _ _) m e⟩
theorem tgsx_cons {gs : TGs} {d : D} {ds : List D} {Φ : Mu → Ro → Prop} (h : TgX K W X μ ρ g d fun μ1 ρ1 => TgsX K W X μ1 ρ1 gs ds Φ) : TgsX K W X μ ρ (gCons g gs) (d :: ds) Φ := fun σ H vs Q m e l dd k => by
  unfold DenL at dd
  obtain ⟨w, ws, e1, a, b⟩ := dd
  exact ⟨w, ws, e1, h σ H w _ m e l a fun μ1 ρ1 σ1 H1 h1 g1 m1 ee1 => h1 σ1 H1 ws Q m1 ee1 (l.grow g1) (DenL.grow g1 _ _ b) fun μ' ρ' σ' H' p g => k μ' ρ' σ' H' p (g1.trans g)⟩
theorem tgx_tup {gs : TGs} {n : Nat} {ds : List D} {Φ : Mu → Ro → Prop} (hn : ds.length = n) (h : TgsX K W X μ ρ gs ds Φ) : TgX K W X μ ρ (gTup K n gs) (.tup ds) Φ := fun σ H v Q m e l dd k => by
  unfold Den at dd
  obtain ⟨p, vs, e1, s, b⟩ := dd
  exact ⟨p, vs, e1, s.sq, by rw [← b.length, hn], h σ H vs Q m e l b k⟩
/-- a, b = e1, e2 -/
theorem gs_par {i j : Nat} {ta : TA} (h : EvL K W X μ ρ ta fun μ1 ds => ∃ d d', ds = [d, d'] ∧ E.nx μ1 ((ρ.set i (some d)).set j (some d'))) : GS K W X μ ρ (tPar i j ta) E := fun σ H D m e l k =>
  h σ H _ m e l fun μ1 ds vs H1 ⟨d, d', e1, h1⟩ g1 m1 d1 => by
    subst e1
    unfold DenL at d1
    obtain ⟨w, ws, e2, a, b⟩ := d1
    unfold DenL at b
    obtain ⟨w', ws', e3, a', b'⟩ := b
    unfold DenL at b'
    subst b' e3 e2
    exact ⟨w, w', rfl, k.nx μ1 _ _ H1 h1 g1 m1 (((e.grow g1).set a i).set a' j)⟩
/-- x op= e -/
def IpX (K : PySem.W.Frag) (r : V → V → Hp → VK → Prop) := OpX K r
theorem gs_aug {i : Nat} {x : D} {ti : TIp} (hx : ρ[i]? = some (some x)) (h : EvX K W X μ ρ te fun μ1 y => OpX K ti μ1 x y fun μ2 z => E.nx μ2 (ρ.set i (some z))) : GS K W X μ ρ (tAug i te ti) E := fun σ H D m e l k => by
  obtain ⟨v, h1, h2⟩ := e.2 i x hx
  exact ⟨v, h1, h σ H _ m e l fun μ1 y w H1 q1 g1 m1 d1 => q1 H1 v w _ m1 (Den.grow g1 _ _ h2) d1 fun μ' d u H' p g mm dd => k.nx μ' _ _ H' p (g1.trans g) mm (((e.grow g1).grow g).set dd i)⟩
/-- a wider store may be forgotten -/
theorem gs_cut {p : Addr} (h : GS K W X (mcut μ p) ρ t E) : GS K W X μ ρ t E := fun σ H D m e l k => h σ H D m.cut (e.less Less.cut) (l.grow Grow.cut) (k.grow Grow.cut)
/-- a list that changed till now and will change no more -/
theorem gs_freeze {ρ' : Ro} {p : Addr} {ds : List D} {i : Nat} (hp : μ p = some (.lst ds)) (hi : ρ[i]? = some (some (.at p))) (he : ρ' = ρ.set i (some (.lst ds))) (h : GS K W X (mcut μ p) ρ' t E) : GS K W X μ ρ t E := fun σ H D m e l k => by
  obtain ⟨vs, h1, h2⟩ := m p _ hp
  obtain ⟨v, q1, q2⟩ := e.2 i _ hi
  unfold Den at q2
  subst q2
  have e' : EnvIs K (mcut μ p) H ρ' σ := by
    have q := (e.less (Less.cut (a := p))).set (d := .lst ds) (v := .ref p) (by unfold Den; exact ⟨p, vs, rfl, ⟨mcut_same, h1⟩, DenL.less Less.cut _ _ h2⟩) i
    rw [← he] at q
    have : σ.set i (some (.ref p)) = σ := by
      apply List.ext_getElem?
      intro j
      by_cases hj : i = j
      · subst hj
        rw [List.getElem?_set_self (List.getElem?_eq_some_iff.mp q1).1, q1]
      · rw [List.getElem?_set_ne hj]
    rw [this] at q
    exact q
  exact h σ H D m.cut e' (l.grow Grow.cut) (k.grow Grow.cut)
end
/-- what a loop walks, over data: ds, while S holds of the store -/
structure ItOk (K : PySem.W.Frag) (μ : Mu) (H : Hp) (J : It) (ds : List D) (S : Mu → Prop) : Prop where
  w : ∃ (G : Hp → Prop) (Y : Nat → Hp → V → Hp → Prop), Walk J ds.length G Y ∧ (∀ μ' H', Grow μ H μ' H' → Mem K μ' H' → S μ' → G H') ∧
    ∀ i μ' H' x H'' d, Grow μ H μ' H' → Mem K μ' H' → S μ' → Y i H' x H'' → ds[i]? = some d → Grow μ' H' μ' H'' ∧ Mem K μ' H'' ∧ Den K μ' H'' d x
def ItX (K : PySem.W.Frag) (W : WX) (X : XD) (μ : Mu) (ρ : Ro) (wi : TI) (Ψ : Mu → List D → (Mu → Prop) → Prop) : Prop := ∀ (σ : L2.St) (H : Hp) (R : It → Hp → Prop), Mem K μ H → EnvIs K μ H ρ σ → LiftX K μ H X W →
  (∀ μ1 ds S J H1, Ψ μ1 ds S → Grow μ H μ1 H1 → Mem K μ1 H1 → ItOk K μ1 H1 J ds S → R J H1) → wi σ H R
/-- a list to be read -/
def IsL (μ : Mu) (d : D) (ds : List D) (S : Mu → Prop) : Prop := ((d = .lst ds ∨ d = .frz ds) ∧ S = fun _ => True) ∨ ∃ a, d = .at a ∧ μ a = some (.lst ds) ∧ S = fun μ' => μ' a = some (.lst ds)

section
variable {K : PySem.W.Frag} {W : WX} {X : XD} {μ μ' : Mu} {H H' : Hp} {ρ : Ro} {E : ED} {ta tb te tx tl : TE} {tt tu : TT} {Φ : DP} {Ψ : Mu → List D → (Mu → Prop) → Prop} {g : TG} {t : TS} {wi : TI}
theorem gs_for (h : ItX K W X μ ρ wi fun μ1 ds S => ∃ Inv : Nat → Mu → Ro → Prop, Inv 0 μ1 ρ ∧ (∀ i μ' ρ', i ≤ ds.length → Inv i μ' ρ' → S μ') ∧
    (∀ i d μ' ρ', ds[i]? = some d → Inv i μ' ρ' → TgX K W X μ' ρ' g d fun μ'' ρ'' => GS K W X μ'' ρ'' t { E with nx := Inv (i + 1), ct := Inv (i + 1), bk := E.nx }) ∧ ∀ μ' ρ', Inv ds.length μ' ρ' → E.nx μ' ρ') :
    GS K W X μ ρ (tFor wi g t) E := fun σ H D m e l k => by
  refine h σ H _ m e l fun μ1 ds S J H1 ⟨Iv, h0, hS, hs, hd⟩ g1 m1 ok => ?_
  obtain ⟨G, Y, w, hG, hY⟩ := ok.w
  refine for_it w (fun i σ' H' => ∃ μ' ρ', Iv i μ' ρ' ∧ Grow μ1 H1 μ' H' ∧ Mem K μ' H' ∧ EnvIs K μ' H' ρ' σ') ⟨μ1, ρ, h0, Grow.refl _ _, m1, e.grow g1⟩ ?_ ?_ ?_
  · rintro i σ' H' hi ⟨μ', ρ', p, gr, mm, ee⟩
    exact hG μ' H' gr mm (hS i μ' ρ' hi p)
  · rintro i x σ' H' H'' hi ⟨μ', ρ', p, gr, mm, ee⟩ y
    obtain ⟨q1, q2, q3⟩ := hY i μ' H' x H'' ds[i] gr mm (hS i μ' ρ' (Nat.le_of_lt hi) p) y (by simp)
    have gg := (g1.trans gr).trans q1
    refine hs i ds[i] μ' ρ' (by simp) p σ' H'' x _ q2 (ee.grow q1) (l.grow gg) q3 fun μ2 ρ2 σ2 H2 p2 g2 m2 e2 => ?_
    refine p2 σ2 H2 _ m2 e2 (l.grow (gg.trans g2)) ⟨fun m r s h x gr' mm' ee' => ?_, fun m r s h x gr' mm' ee' => k.rt m r s h x ((gg.trans g2).trans gr') mm' ee', fun m r s h x gr' mm' ee' => k.nx m r s h x ((gg.trans g2).trans gr') mm' ee', fun m r s h x gr' mm' ee' => ?_⟩
    · exact ⟨m, r, x, ((gr.trans q1).trans g2).trans gr', mm', ee'⟩
    · exact ⟨m, r, x, ((gr.trans q1).trans g2).trans gr', mm', ee'⟩
  · rintro σ' H' ⟨μ', ρ', p, gr, mm, ee⟩
    exact k.nx μ' ρ' σ' H' (hd μ' ρ' p) (g1.trans gr) mm ee
theorem den_seq {d : D} {ds : List D} {S : Mu → Prop} {v : V} (hd : IsL μ d ds S) (m : Mem K μ H) (h : Den K μ H d v) : ∃ p vs, v = .ref p ∧ SqL K H p vs ∧ DenL K μ H ds vs := by
  rcases hd with ⟨e | e, _⟩ | ⟨a, e, ha, _⟩
  · subst e; unfold Den at h
    obtain ⟨p, vs, e1, s, b⟩ := h
    exact ⟨p, vs, e1, SqL.of s.2, b⟩
  · subst e; unfold Den at h
    obtain ⟨p, vs, e1, s, b⟩ := h
    exact ⟨p, vs, e1, s.sq, b⟩
  · subst e; unfold Den at h
    obtain ⟨vs, e1, b⟩ := m a _ ha
    exact ⟨a, vs, h, SqL.of e1, b⟩
theorem itx_list (h : EvX K W X μ ρ tl fun μ1 d => ∃ ds S, IsL μ1 d ds S ∧ Ψ μ1 ds S) : ItX K W X μ ρ (iList K tl) Ψ := fun σ H R m e l k =>
  h σ H _ m e l fun μ1 d v H1 ⟨ds, S, hd, hp⟩ g1 m1 d1 => by
    rcases hd with ⟨e1, hS⟩ | ⟨a, e1, ha, hS⟩
    · obtain ⟨p, vs, e2, s, b⟩ : ∃ p vs, v = .ref p ∧ StS K μ1 H1 p vs ∧ DenL K μ1 H1 ds vs := by
        rcases e1 with e1 | e1
        · subst e1; unfold Den at d1
          obtain ⟨p, vs, e2, s, b⟩ := d1
          exact ⟨p, vs, e2, .inl ⟨s.1, .inl s.2⟩, b⟩
        · subst e1; unfold Den at d1; exact d1
      refine ⟨p, e2, ⟨vs, s.sq⟩, k μ1 ds S _ H1 hp g1 m1 ⟨(fun H => SqL K H p vs), YAt vs, by rw [b.length]; exact walk_list, fun μ' H' gr mm _ => (gr.stS s).sq, ?_⟩⟩
      rintro i μ' H' x H'' d gr mm _ ⟨rfl, hx⟩ hd
      obtain ⟨v', q1, q2⟩ := (DenL.grow gr _ _ b).get hd
      rw [hx] at q1; cases q1
      exact ⟨Grow.refl _ _, mm, q2⟩
    · subst e1 hS
      unfold Den at d1
      obtain ⟨vs, e2, b⟩ := m1 a _ ha
      refine ⟨a, d1, ⟨vs, SqL.of e2⟩, k μ1 ds _ _ H1 hp g1 m1 ⟨(fun H => ∃ vs, H a = some (.lst vs) ∧ vs.length = ds.length), (fun i H x H' => H' = H ∧ ∀ vs, H a = some (.lst vs) → vs[i]? = some x), ?_, ?_, ?_⟩⟩
      · refine ⟨?_, ?_, ?_⟩
        · rintro i H hi ⟨vs, q, ln⟩
          exact ⟨vs, vs[i], SqL.of q, by simp⟩
        · rintro H ⟨vs, q, ln⟩
          exact ⟨vs, SqL.of q, by omega⟩
        · rintro i H x H' hi ⟨vs, q, ln⟩ ⟨rfl, y⟩
          exact ⟨rfl, fun vs' q' => y vs' (SqL.of q')⟩
      · intro μ' H' gr mm ha'
        obtain ⟨vs', q, b'⟩ := mm a _ ha'
        exact ⟨vs', q, b'.length.symm⟩
      · rintro i μ' H' x H'' d gr mm ha' ⟨rfl, y⟩ hd
        obtain ⟨vs', q, b'⟩ := mm a _ ha'
        obtain ⟨v', q1, q2⟩ := b'.get hd
        rw [y vs' q] at q1; cases q1
        exact ⟨Grow.refl _ _, mm, q2⟩
theorem itx_tup (h : EvX K W X μ ρ tl fun μ1 d => ∃ ds, d = .tup ds ∧ Ψ μ1 ds fun _ => True) : ItX K W X μ ρ (iTup K tl) Ψ := fun σ H R m e l k =>
  h σ H _ m e l fun μ1 d v H1 ⟨ds, hd, hp⟩ g1 m1 d1 => by
    subst hd; unfold Den at d1
    obtain ⟨p, vs, e2, s, b⟩ := d1
    refine ⟨p, e2, ⟨vs, s.sq⟩, k μ1 ds _ _ H1 hp g1 m1 ⟨(fun H => SqT K H p vs), YAt vs, by rw [b.length]; exact walk_tup, fun μ' H' gr mm _ => (gr.stT s).sq, ?_⟩⟩
    rintro i μ' H' x H'' d gr mm _ ⟨rfl, hx⟩ hd
    obtain ⟨v', q1, q2⟩ := (DenL.grow gr _ _ b).get hd
    rw [hx] at q1; cases q1
    exact ⟨Grow.refl _ _, mm, q2⟩
/-- the turns of a range -/
def rangeD (lo : Int) (n : Nat) : List D := (List.range n).map fun (i : Nat) => .int (lo + i)
theorem rangeD_len (lo : Int) (n : Nat) : (rangeD lo n).length = n := by unfold rangeD; simp
theorem rangeD_get {lo : Int} {n i : Nat} {d : D} (h : (rangeD lo n)[i]? = some d) : i < n ∧ d = .int (lo + i) := by
  unfold rangeD at h
  rw [List.getElem?_map] at h
  by_cases hi : i < n
  · rw [List.getElem?_range hi] at h
    exact ⟨hi, by simpa using h.symm⟩
  · rw [List.getElem?_eq_none (by simpa using hi)] at h
    cases h
theorem itok_range {lo : Int} {n : Nat} : ItOk K μ H (Itr lo n) (rangeD lo n) fun _ => True :=
  ⟨(fun _ => True), YFn fun i => .int (lo + i), by rw [rangeD_len]; exact walk_range, fun _ _ _ _ _ => True.intro, fun i μ' H' x H'' d gr mm _ y hd => by
    obtain ⟨rfl, rfl⟩ := y
    obtain ⟨_, rfl⟩ := rangeD_get hd
    exact ⟨Grow.refl _ _, mm, by unfold Den; rfl⟩⟩
theorem itx_range1 {tr : TA} (h : EvL K W X μ ρ tr fun μ1 ds => ∃ n : Int, ds = [.int n] ∧ (-(2 ^ 62) ≤ n ∧ n < 2 ^ 62) ∧ Ψ μ1 (rangeD 0 n.toNat) fun _ => True) : ItX K W X μ ρ (iRng1 tr) Ψ := fun σ H R m e l k =>
  h σ H _ m e l fun μ1 ds vs H1 ⟨n, hd, hb, hp⟩ g1 m1 d1 => by
    subst hd
    unfold DenL at d1
    obtain ⟨w, ws, e2, a, b⟩ := d1
    unfold Den at a
    unfold DenL at b
    subst e2 a b
    exact ⟨n, rfl, hb.1, hb.2, k μ1 _ _ _ H1 hp g1 m1 itok_range⟩
theorem itx_range2 {tr : TA} (h : EvL K W X μ ρ tr fun μ1 ds => ∃ i n : Int, ds = [.int i, .int n] ∧ (-(2 ^ 62) ≤ i ∧ i < 2 ^ 62 ∧ -(2 ^ 62) ≤ n ∧ n < 2 ^ 62) ∧ Ψ μ1 (rangeD i (n - i).toNat) fun _ => True) : ItX K W X μ ρ (iRng2 tr) Ψ := fun σ H R m e l k =>
  h σ H _ m e l fun μ1 ds vs H1 ⟨i, n, hd, hb, hp⟩ g1 m1 d1 => by
    subst hd
    unfold DenL at d1
    obtain ⟨w, ws, e2, a, b⟩ := d1
    unfold Den at a
    unfold DenL at b
    obtain ⟨w', ws', e3, a', b'⟩ := b
    unfold Den at a'
    unfold DenL at b'
    subst e3 a' b' e2 a
    exact ⟨i, n, rfl, hb, k μ1 _ _ _ H1 hp g1 m1 itok_range⟩
/-- the signs of a text -/
def signsD (z : Str) : List D := z.cps.toList.map fun c => .str ⟨#[c]⟩
theorem itx_str (h : EvX K W X μ ρ te fun μ1 d => ∃ z, d = .str z ∧ Ψ μ1 (signsD z) fun _ => True) : ItX K W X μ ρ (iStr te) Ψ := fun σ H R m e l k =>
  h σ H _ m e l fun μ1 d v H1 ⟨z, hd, hp⟩ g1 m1 d1 => by
    subst hd; unfold Den at d1
    refine ⟨z, d1, k μ1 _ _ _ H1 hp g1 m1 ⟨_, _, by unfold signsD; rw [List.length_map, Array.length_toList]; exact walk_str, fun _ _ _ _ _ => True.intro, ?_⟩⟩
    rintro i μ' H' x H'' d gr mm _ ⟨rfl, c, hc, rfl⟩ hd
    refine ⟨Grow.refl _ _, mm, ?_⟩
    unfold signsD at hd
    rw [List.getElem?_map, Array.getElem?_toList, hc] at hd
    cases hd
    unfold Den
    rfl
/-- pairs -/
def pairsD (xs ys : List D) : List D := (xs.zip ys).map fun p => .tup [p.1, p.2]
theorem den_pair {x y : D} {v w : V} {T : Addr} (m : Mem K μ H) (hT : H T = none) (a : Den K μ H x v) (b : Den K μ H y w) : Den K μ (upd H T (.tup [v, w])) (.tup [x, y]) (.ref T) := by
  unfold Den
  exact ⟨T, [v, w], rfl, .inl ⟨m.free hT, .inl upd_same⟩, DenL.cons (Den.grow (Grow.new hT) _ _ a) (DenL.cons (Den.grow (Grow.new hT) _ _ b) DenL.nil)⟩
/-- the i-th and the i-th: a new pair -/
theorem itok_pair {J : It} {n : Nat} {ds : List D} {S : Mu → Prop} {xs ys : Hp → Nat → Option V} {G : Hp → Prop} {Y : Nat → Hp → V → Hp → Prop} (w : Walk J ds.length G Y) (hG : ∀ μ' H', Grow μ H μ' H' → Mem K μ' H' → S μ' → G H')
    (hY : ∀ i μ' H' v H'' d, Grow μ H μ' H' → Mem K μ' H' → S μ' → Y i H' v H'' → ds[i]? = some d → ∃ T x y v1 v2, v = .ref T ∧ H' T = none ∧ H'' = upd H' T (.tup [v1, v2]) ∧ d = .tup [x, y] ∧ Den K μ' H' x v1 ∧ Den K μ' H' y v2) : ItOk K μ H J ds S :=
  ⟨G, Y, w, hG, fun i μ' H' v H'' d gr mm s y hd => by
    obtain ⟨T, x, y', v1, v2, rfl, hT, rfl, rfl, a, b⟩ := hY i μ' H' v H'' d gr mm s y hd
    exact ⟨Grow.new hT, mm.new hT, den_pair mm hT a b⟩⟩
theorem pairsD_get {xs ys : List D} {i : Nat} {d : D} (h : (pairsD xs ys)[i]? = some d) : ∃ x y, xs[i]? = some x ∧ ys[i]? = some y ∧ d = .tup [x, y] := by
  unfold pairsD at h
  rw [List.getElem?_map] at h
  cases e : (xs.zip ys)[i]? with
  | none => rw [e] at h; cases h
  | some p =>
    rw [e] at h
    cases h
    rw [List.getElem?_zip_eq_some] at e
    exact ⟨p.1, p.2, e.1, e.2, rfl⟩
theorem pairsD_len (xs ys : List D) : (pairsD xs ys).length = min xs.length ys.length := by unfold pairsD; simp
/-- zip of two lists, two tuples -/
theorem itx_zip {tr : TA} (h : EvL K W X μ ρ tr fun μ1 ds => ∃ a b xs ys, ds = [a, b] ∧ ((∃ S S', IsL μ1 a xs S ∧ IsL μ1 b ys S' ∧ (∀ m, S m) ∧ (∀ m, S' m)) ∨ (a = .tup xs ∧ b = .tup ys)) ∧ Ψ μ1 (pairsD xs ys) fun _ => True) : ItX K W X μ ρ (iZipA K tr) Ψ := fun σ H R m e l k =>
  h σ H _ m e l fun μ1 ds vs H1 ⟨a, b, xs, ys, hd, hab, hp⟩ g1 m1 d1 => by
    subst hd
    unfold DenL at d1
    obtain ⟨v1, ws, e2, da, b'⟩ := d1
    unfold DenL at b'
    obtain ⟨v2, ws', e3, db, b''⟩ := b'
    unfold DenL at b''
    subst b'' e3 e2
    rcases hab with ⟨S, S', ha, hb, s1, s2⟩ | ⟨rfl, rfl⟩
    · have key : ∀ {d : D} {v : V} {zs : List D} {S : Mu → Prop}, IsL μ1 d zs S → (∀ m, S m) → Den K μ1 H1 d v → ∃ p vs, v = .ref p ∧ StS K μ1 H1 p vs ∧ DenL K μ1 H1 zs vs := by
        intro d v zs S hd hs dv
        rcases hd with ⟨e1 | e1, _⟩ | ⟨a, _, _, hS⟩
        · subst e1; unfold Den at dv
          obtain ⟨p, vs, e2, s, b⟩ := dv
          exact ⟨p, vs, e2, .inl ⟨s.1, .inl s.2⟩, b⟩
        · subst e1; unfold Den at dv; exact dv
        · subst hS
          have := hs (fun _ => none)
          cases this
      obtain ⟨p, us, e1, sp, bp⟩ := key ha s1 da
      obtain ⟨q, ws, e2, sq, bq⟩ := key hb s2 db
      subst e1 e2
      refine ⟨p, q, us, ws, rfl, .inl ⟨sp.sq, sq.sq, k μ1 _ _ _ H1 hp g1 m1 (itok_pair (n := 0) (xs := fun _ _ => none) (ys := fun _ _ => none) (walk_zip (xs := us) (ys := ws) (by rw [pairsD_len, bp.length, bq.length])) (fun μ' H' gr mm _ => ⟨(gr.stS sp).sq, (gr.stS sq).sq⟩) ?_)⟩⟩
      rintro i μ' H' v H'' d gr mm _ ⟨T, x, y, rfl, hT, rfl, hx, hy⟩ hd
      obtain ⟨dx, dy, ex, ey, rfl⟩ := pairsD_get hd
      obtain ⟨u1, q1, r1⟩ := (DenL.grow gr _ _ bp).get ex
      obtain ⟨u2, q2, r2⟩ := (DenL.grow gr _ _ bq).get ey
      have hx' : us[i]? = some x := hx
      have hy' : ws[i]? = some y := hy
      rw [hx'] at q1; cases q1
      rw [hy'] at q2; cases q2
      exact ⟨T, dx, dy, x, y, rfl, hT, rfl, rfl, r1, r2⟩
    · unfold Den at da db
      obtain ⟨p, us, e1, sp, bp⟩ := da
      obtain ⟨q, ws, e2, sq, bq⟩ := db
      subst e1 e2
      refine ⟨p, q, us, ws, rfl, .inr ⟨sp.sq, sq.sq, k μ1 _ _ _ H1 hp g1 m1 (itok_pair (n := 0) (xs := fun _ _ => none) (ys := fun _ _ => none) (G := fun H => SqT K H p us ∧ SqT K H q ws) (Y := YPair (fun i => us[i]?) (fun i => ws[i]?)) ?_ (fun μ' H' gr mm _ => ⟨(gr.stT sp).sq, (gr.stT sq).sq⟩) ?_)⟩⟩
      · refine ⟨?_, ?_, ?_⟩
        · rintro i H hi ⟨h1, h2⟩
          rw [pairsD_len, bp.length, bq.length] at hi
          exact ⟨us, ws, us[i], ws[i], h1, h2, by simp, by simp⟩
        · rintro H ⟨h1, h2⟩
          refine ⟨us, ws, h1, h2, ?_⟩
          rw [pairsD_len, bp.length, bq.length]
          omega
        · rintro i H x H' hi ⟨h1, h2⟩ y
          obtain ⟨T, a, b, h3, h4, h5, h6⟩ := y
          exact ⟨T, a, b, h3, h4, h5, h6.1 us h1, h6.2 ws h2⟩
      · rintro i μ' H' v H'' d gr mm _ ⟨T, x, y, rfl, hT, rfl, hx, hy⟩ hd
        obtain ⟨dx, dy, ex, ey, rfl⟩ := pairsD_get hd
        obtain ⟨u1, q1, r1⟩ := (DenL.grow gr _ _ bp).get ex
        obtain ⟨u2, q2, r2⟩ := (DenL.grow gr _ _ bq).get ey
        have hx' : us[i]? = some x := hx
        have hy' : ws[i]? = some y := hy
        rw [hx'] at q1; cases q1
        rw [hy'] at q2; cases q2
        exact ⟨T, dx, dy, x, y, rfl, hT, rfl, rfl, r1, r2⟩
/-! ### comprehensions -/
theorem wipe_env {vs : List Nat} {σ : L2.St} (e : EnvIs K μ H ρ σ) : EnvIs K μ H (vs.foldr (fun v r => r.set v none) ρ) (wipe σ vs) := by
  induction vs with
  | nil => exact e
  | cons v vs ih => exact ih.unset v
theorem wipe_get (σ : L2.St) : ∀ (vs : List Nat) (i : Nat), (wipe σ vs)[i]? = if i ∈ vs then (σ[i]?).map (fun _ => none) else σ[i]?
  | [], i => by rw [if_neg (by simp)]; rfl
  | v :: vs, i => by
    show ((wipe σ vs).set v none)[i]? = _
    by_cases h : v = i
    · subst h
      rw [if_pos (by simp)]
      by_cases hl : v < σ.length
      · rw [List.getElem?_set_self (by rw [wipe_length]; exact hl), List.getElem?_eq_getElem hl]; rfl
      · rw [List.getElem?_eq_none (by rw [List.length_set, wipe_length]; omega), List.getElem?_eq_none (by omega)]; rfl
    · rw [List.getElem?_set_ne h, wipe_get σ vs i]
      have : (i ∈ v :: vs) ↔ i ∈ vs := by
        rw [List.mem_cons]
        exact ⟨fun q => q.resolve_left (fun z => h z.symm), .inr⟩
      by_cases hm : i ∈ vs
      · rw [if_pos hm, if_pos (this.mpr hm)]
      · rw [if_neg hm, if_neg (fun z => hm (this.mp z))]
theorem wipe_set {σ : L2.St} {vs : List Nat} {j : Nat} {x : Option V} (h : j ∈ vs) : wipe (σ.set j x) vs = wipe σ vs := by
  apply List.ext_getElem?
  intro i
  rw [wipe_get, wipe_get]
  by_cases hi : i ∈ vs
  · rw [if_pos hi, if_pos hi]
    by_cases e : j = i
    · subst e
      by_cases hl : j < σ.length
      · rw [List.getElem?_set_self hl, List.getElem?_eq_getElem hl]; rfl
      · rw [List.getElem?_eq_none (by rw [List.length_set]; omega), List.getElem?_eq_none (by omega)]
    · rw [List.getElem?_set_ne e]
  · rw [if_neg hi, if_neg hi, List.getElem?_set_ne (fun z => hi (by rw [← z]; exact h))]
theorem wipe_wipe {σ : L2.St} {vs : List Nat} : wipe (wipe σ vs) vs = wipe σ vs := by
  apply List.ext_getElem?
  intro i
  rw [wipe_get, wipe_get]
  by_cases hi : i ∈ vs
  · rw [if_pos hi, if_pos hi]
    cases σ[i]? <;> rfl
  · rw [if_neg hi, if_neg hi]
/-- the slots ahead of a comprehension's turn -/
abbrev wipeD (ρ : Ro) (vs : List Nat) : Ro := vs.foldr (fun v r => r.set v none) ρ
/-- a comprehension's target: its names are among vs -/
def TcX (K : PySem.W.Frag) (W : WX) (X : XD) (vs : List Nat) (μ : Mu) (ρ : Ro) (g : TG) (d : D) (Φ : Mu → Ro → Prop) : Prop := ∀ (σ : L2.St) (H : Hp) (v : V) (Q : L2.St → Hp → Prop), Mem K μ H → EnvIs K μ H ρ σ → Den K μ H d v →
  (∀ ρ' σ', Φ μ ρ' → EnvIs K μ H ρ' σ' → wipe σ' vs = wipe σ vs → Q σ' H) → g v σ H Q
theorem tcx_name {vs : List Nat} {j : Nat} {d : D} {Φ : Mu → Ro → Prop} (hj : j ∈ vs) (h : Φ μ (ρ.set j (some d))) : TcX K W X vs μ ρ (gName j) d Φ := fun σ H v Q m e dd k => k _ _ h (e.set dd j) (wipe_set hj)
theorem tcx_tup2 {vs : List Nat} {i j : Nat} {d d' : D} {Φ : Mu → Ro → Prop} (hi : i ∈ vs) (hj : j ∈ vs) (h : Φ μ ((ρ.set i (some d)).set j (some d'))) : TcX K W X vs μ ρ (gTup K 2 (gCons (gName i) (gCons (gName j) gNil))) (.tup [d, d']) Φ := fun σ H v Q m e dd k => by
  unfold Den at dd
  obtain ⟨p, us, e1, s, b⟩ := dd
  unfold DenL at b
  obtain ⟨w, ws, e2, a, b⟩ := b
  unfold DenL at b
  obtain ⟨w', ws', e3, a', b'⟩ := b
  unfold DenL at b'
  subst b' e3 e2
  exact ⟨p, _, e1, s.sq, rfl, w, _, rfl, w', _, rfl, rfl, k _ _ h ((e.set a i).set a' j) (by rw [wipe_set hj, wipe_set hi])⟩
theorem tcx_tup4 {vs : List Nat} {i1 i2 i3 i4 : Nat} {d1 d2 d3 d4 : D} {Φ : Mu → Ro → Prop} (h1 : i1 ∈ vs) (h2 : i2 ∈ vs) (h3 : i3 ∈ vs) (h4 : i4 ∈ vs) (h : Φ μ ((((ρ.set i1 (some d1)).set i2 (some d2)).set i3 (some d3)).set i4 (some d4))) :
    TcX K W X vs μ ρ (gTup K 4 (gCons (gName i1) (gCons (gName i2) (gCons (gName i3) (gCons (gName i4) gNil))))) (.tup [d1, d2, d3, d4]) Φ := fun σ H v Q m e dd k => by
  unfold Den at dd
  obtain ⟨p, us, e1, s, b⟩ := dd
  unfold DenL at b
  obtain ⟨w1, ws1, q1, a1, b⟩ := b
  unfold DenL at b
  obtain ⟨w2, ws2, q2, a2, b⟩ := b
  unfold DenL at b
  obtain ⟨w3, ws3, q3, a3, b⟩ := b
  unfold DenL at b
  obtain ⟨w4, ws4, q4, a4, b⟩ := b
  unfold DenL at b
  subst b q4 q3 q2 q1
  exact ⟨p, _, e1, s.sq, rfl, _, _, rfl, _, _, rfl, _, _, rfl, _, _, rfl, rfl, k _ _ h ((((e.set a1 i1).set a2 i2).set a3 i3).set a4 i4) (by rw [wipe_set h4, wipe_set h3, wipe_set h2, wipe_set h1])⟩
/-- a comprehension: Iv by the turn, the store (the new list in it) and the list so far; at the end it may change no more, or it may -/
theorem evx_lc {vs : List Nat} (h : ItX K W X μ ρ wi fun μ1 ds S => ∀ Dl, μ1 Dl = none → ∃ Iv : Nat → Mu → List D → Prop, Iv 0 (mput μ1 Dl (.lst [])) [] ∧
    (∀ i μ' acc, i ≤ ds.length → μ' Dl = some (.lst acc) → Iv i μ' acc → acc.length ≤ 1000000 ∧ S μ') ∧
    (∀ i d μ' acc, ds[i]? = some d → μ' Dl = some (.lst acc) → Iv i μ' acc → TcX K W X vs μ' (wipeD ρ vs) g d fun μ2 ρ2 =>
      EvB K W X μ2 ρ2 tt fun μ3 b => μ3 Dl = some (.lst acc) ∧ if b = true then EvX K W X μ3 ρ2 te fun μ4 y => μ4 Dl = some (.lst acc) ∧ Iv (i + 1) (mput μ4 Dl (.lst (acc ++ [y]))) (acc ++ [y]) else Iv (i + 1) μ3 acc) ∧
    (∀ μ' acc, μ' Dl = some (.lst acc) → Iv ds.length μ' acc → Φ (mcut μ' Dl) (.lst acc) ∨ Φ μ' (.at Dl))) : EvX K W X μ ρ (tLc wi g tt te vs) Φ := fun σ H Q m e l k => by
  refine h σ H _ m e l fun μ1 ds S J H1 hp g1 m1 ok Dl hD => ?_
  obtain ⟨Iv, h0, hS, hs, hd⟩ := hp Dl (m1.free hD)
  obtain ⟨G, Y, w, hG, hY⟩ := ok.w
  have gn : Grow μ1 H1 (mput μ1 Dl (.lst [])) (upd H1 Dl (.lst [])) := Grow.newM hD
  have e1 := wipe_env (vs := vs) (e.grow g1)
  refine lc_it w (fun i H' => ∃ μ' acc, Iv i μ' acc ∧ μ' Dl = some (.lst acc) ∧ Grow μ1 H1 μ' H' ∧ Mem K μ' H') ⟨_, [], h0, mput_same, gn, m1.newM hD ⟨[], upd_same, DenL.nil⟩⟩ ?_ ?_ ?_
  · rintro i H' hi ⟨μ', acc, p, hl, gr, mm⟩
    exact hG μ' H' gr mm (hS i μ' acc hi hl p).2
  · rintro i x H' H'' hi ⟨μ', acc, p, hl, gr, mm⟩ y
    have hz := hS i μ' acc (Nat.le_of_lt hi) hl p
    obtain ⟨q1, q2, q3⟩ := hY i μ' H' x H'' ds[i] gr mm hz.2 y (by simp)
    have gg := gr.trans q1
    refine hs i ds[i] μ' acc (by simp) hl p (wipe σ vs) H'' x _ q2 (e1.grow gg) q3 fun ρ2 σ2 p2 e2 hw => ⟨by rw [hw, wipe_wipe], ?_⟩
    refine p2 σ2 H'' _ q2 e2 (l.grow (g1.trans gg)) fun μ3 b H3 ⟨hl3, p3⟩ g3 m3 => ?_
    cases b with
    | false =>
      rw [if_neg (by decide)] at p3 ⊢
      exact ⟨μ3, acc, p3, hl3, gg.trans g3, m3⟩
    | true =>
      rw [if_pos rfl] at p3 ⊢
      refine p3 σ2 H3 _ m3 (e2.grow g3) (l.grow ((g1.trans gg).trans g3)) fun μ4 d v H4 ⟨hl4, p4⟩ g4 m4 d4 => ?_
      obtain ⟨us, hu, hb⟩ := m4 Dl _ hl4
      refine ⟨us, hu, by rw [← hb.length]; exact Nat.lt_of_le_of_lt hz.1 (by decide), _, _, p4, mput_same, ((gg.trans g3).trans g4).trans (Grow.wr hl4), m4.wr hl4 ⟨_, upd_same, (DenL.grow (Grow.wr hl4) _ _ hb).append (DenL.cons (Den.grow (Grow.wr hl4) _ _ d4) DenL.nil)⟩⟩
  · rintro H' ⟨μ', acc, p, hl, gr, mm⟩
    rcases hd μ' acc hl p with q | q
    · obtain ⟨us, hu, hb⟩ := mm Dl _ hl
      exact k _ _ _ H' q ((g1.trans gr).trans Grow.cut) mm.cut (by unfold Den; exact ⟨Dl, us, rfl, ⟨mcut_same, hu⟩, DenL.less Less.cut _ _ hb⟩)
    · exact k _ _ _ H' q (g1.trans gr) mm (by unfold Den; rfl)
theorem evb_yes {Ψ : Mu → Bool → Prop} (h : Ψ μ true) : EvB K W X μ ρ tYes Ψ := fun σ H Q m e l k => k μ true H h (Grow.refl _ _) m
/-- a comprehension whose turns change nothing: from f and p of the items -/
theorem evx_lcP {vs : List Nat} (h : ItX K W X μ ρ wi fun μ1 ds S => (ds.length ≤ 1000000 ∧ ∀ m : Mu, (∀ b o, μ1 b = some o → m b = some o) → S m) ∧ ∃ (p : D → Bool) (f : D → D),
    (∀ d, d ∈ ds → ∀ μ' : Mu, (∀ b o, μ1 b = some o → μ' b = some o) → TcX K W X vs μ' (wipeD ρ vs) g d fun μ2 ρ2 => EvB K W X μ2 ρ2 tt fun μ3 b => μ3 = μ2 ∧ b = p d ∧ (p d = true → EvX K W X μ3 ρ2 te fun μ4 y => μ4 = μ3 ∧ y = f d)) ∧
    Φ μ1 (.lst ((ds.filter p).map f))) : EvX K W X μ ρ (tLc wi g tt te vs) Φ := by
  refine evx_lc fun σ H R m e l k => h σ H R m e l fun μ1 ds S J H1 ⟨⟨hl, hS⟩, p, f, hp, hq⟩ g1 m1 ok => k μ1 ds S J H1 (fun Dl hD => ?_) g1 m1 ok
  have up : ∀ μ' : Mu, (∀ b, b ≠ Dl → μ' b = μ1 b) → ∀ b o, μ1 b = some o → μ' b = some o := fun μ' hμ b o e => by
    rw [hμ b (fun z => by rw [z, hD] at e; cases e)]; exact e
  refine ⟨fun i μ' acc => acc = ((ds.take i).filter p).map f ∧ ∀ b, b ≠ Dl → μ' b = μ1 b, ⟨by simp, fun b hb => mput_ne hb⟩, ?_, ?_, ?_⟩
  · rintro i μ' acc hi _ ⟨rfl, hμ⟩
    refine ⟨?_, hS _ (up μ' hμ)⟩
    rw [List.length_map]
    refine Nat.le_trans (List.length_filter_le _ _) ?_
    rw [List.length_take]
    omega
  · rintro i d μ' acc hi hD' ⟨rfl, hμ⟩
    have hm : d ∈ ds := List.mem_of_getElem? hi
    have e1 : ds.take (i + 1) = ds.take i ++ [d] := by
      rw [List.take_succ, hi]; rfl
    intro σ H v Q m e dd k
    refine hp d hm μ' (up μ' hμ) σ H v Q m e dd fun ρ2 σ2 q2 e2 hw => k ρ2 σ2 ?_ e2 hw
    refine q2.imp fun μ3 b ⟨r1, r2, r3⟩ => ?_
    subst r1 r2
    refine ⟨hD', ?_⟩
    cases hpd : p d with
    | false =>
      rw [if_neg (by decide)]
      refine ⟨?_, hμ⟩
      rw [e1, List.filter_append, List.filter_cons, hpd]
      simp
    | true =>
      rw [if_pos rfl]
      refine (r3 hpd).imp fun μ4 y ⟨s1, s2⟩ => ?_
      subst s1 s2
      refine ⟨hD', ?_, fun b hb => by rw [mput_ne hb]; exact hμ b hb⟩
      rw [e1, List.filter_append, List.filter_cons, hpd]
      simp
  · rintro μ' acc hD' ⟨rfl, hμ⟩
    left
    have : mcut μ' Dl = μ1 := by
      funext b
      by_cases hb : b = Dl
      · subst hb; rw [mcut_same, hD]
      · rw [mcut_ne hb, hμ b hb]
    rw [this, List.take_length]
    exact hq
end
/-! ### promises over data -/
abbrev PD := Mu → List D → DP → (Mu → Addr → D → Prop) → Prop
/-- the promise P of a def with n parameters -/
def spD (K : PySem.W.Frag) (n : Nat) (P : PD) : Sp := fun vs H Q E => ∃ (μ : Mu) (ds : List D) (post : DP) (exc : Mu → Addr → D → Prop), Mem K μ H ∧ DenL K μ H ds vs ∧ ds.length = n ∧ P μ ds post exc ∧
  (∀ μ' d v H', post μ' d → Grow μ H μ' H' → Mem K μ' H' → Den K μ' H' d v → Q v H') ∧
  (∀ μ' C d dx v H', exc μ' C d → Grow μ H μ' H' → Mem K μ' H' → μ' dx = none → H' dx = some (.xd [(("value" : Str), v)]) → Den K μ' H' d v → E (.ref C) (some dx) H')
abbrev WN : WX := fun _ _ _ _ => False
abbrev XN : XD := fun _ _ _ _ => False
abbrev excN : Mu → Addr → D → Prop := fun _ _ _ => False
def startD (N : List Str) (ds : List D) : Ro := ds.map some ++ List.replicate (N.length - ds.length) none
/-- a function of plain data: it changes nothing -/
def pureP (f : List D → Option D) : PD := fun μ ds post _ => ∃ d, f ds = some d ∧ post μ d

section
variable {K : PySem.W.Frag} {W : WX} {X : XD} {μ μ' : Mu} {H H' : Hp} {ρ : Ro} {E : ED} {ta tb te tx tl : TE} {tt tu : TT} {Φ : DP} {g : TG} {t : TS} {wi : TI} {n : Nat} {P : PD} {tr tk : TA}
theorem evx_call (h : EvL K W X μ ρ tr fun μ1 ds => ds.length = n ∧ P μ1 ds Φ excN) : EvX K W X μ ρ (tCall (spD K n P) [] E0 tr) Φ := fun σ H Q m e l k =>
  h σ H _ m e l fun μ1 ds vs H1 ⟨hl, hp⟩ g1 m1 d1 => ⟨μ1, ds, Φ, excN, m1, by rw [List.append_nil]; exact d1, hl, hp, fun μ' d v H' p g => k μ' d v H' p (g1.trans g), fun _ _ _ _ _ _ z => z.elim⟩
theorem evx_callS (h : EvL K W X μ ρ tr fun μ1 ds => ds.length = n ∧ P μ1 ds Φ fun μ' C d => X μ' ρ C d) : EvX K W X μ ρ (tCallS (spD K n P) (WE W) tr) Φ := fun σ H Q m e l k =>
  h σ H _ m e l fun μ1 ds vs H1 ⟨hl, hp⟩ g1 m1 d1 => ⟨μ1, ds, Φ, _, m1, d1, hl, hp, fun μ' d v H' p g => k μ' d v H' p (g1.trans g), fun μ' C d dx v H' p g mm => l μ' ρ C d dx v σ H' p (g1.trans g) mm ((e.grow g1).grow g)⟩
/-- a call with keywords: gD puts the data in the parameters' order -/
theorem evx_callK {gV : List V → List V → List V} (gD : List D → List D → List D) (hg : ∀ μ H ds es vs ws, DenL K μ H ds vs → DenL K μ H es ws → DenL K μ H (gD ds es) (gV vs ws))
    (h : EvL K W X μ ρ tr fun μ1 ds => EvL K W X μ1 ρ tk fun μ2 es => (gD ds es).length = n ∧ P μ2 (gD ds es) Φ excN) : EvX K W X μ ρ (tCallK (spD K n P) gV E0 tr tk) Φ := fun σ H Q m e l k =>
  h σ H _ m e l fun μ1 ds vs H1 h1 g1 m1 d1 => h1 σ H1 _ m1 (e.grow g1) (l.grow g1) fun μ2 es ws H2 ⟨hl, hp⟩ g2 m2 d2 =>
    ⟨μ2, _, Φ, excN, m2, hg _ _ _ _ _ _ (DenL.grow g2 _ _ d1) d2, hl, hp, fun μ' d v H' p g => k μ' d v H' p ((g1.trans g2).trans g), fun _ _ _ _ _ _ z => z.elim⟩
/-- raise C(e) -/
abbrev tRaiseO (C : Addr) (W : WX) (sp : Sp) (tr : TA) : TS := fun _ σ H => tMkO C sp [] tr σ H fun cls d H' => W cls d σ H'
/-- the promise of WorthError's __init__ -/
def spInit (K : PySem.W.Frag) (f : Str) : Sp := fun vs H Q _ => ∃ (a C : Addr) (v : V), vs = [.ref a, v] ∧ OexC K C ∧ PySem.W.findIn K (.ref C) f = some none ∧ H a = some (exo a C none) ∧
  ∀ dx, H dx = none → dx ≠ a → Q .non (upd (upd H dx (exd dx [(f, v)])) a (exo a C (some dx)))
theorem gs_raise {C : Addr} (hC : OexC K C) (hv : PySem.W.findIn K (.ref C) "value" = some none) (h : EvL K W X μ ρ tr fun μ1 ds => ∃ d, ds = [d] ∧ X μ1 ρ C d) : GS K W X μ ρ (tRaiseO C W (spInit K "value") tr) E := fun σ H D m e l k => by
  refine h σ H _ m e l fun μ1 ds vs H1 ⟨d, hd, hx⟩ g1 m1 d1 => ?_
  subst hd
  unfold DenL at d1
  obtain ⟨w, ws, e1, a, b⟩ := d1
  unfold DenL at b
  subst b e1
  refine ⟨Nat.le_of_ble_eq_true rfl, fun p hp => ⟨p, C, w, rfl, hC, hv, upd_same, fun dx hdx hne => ⟨rfl, dx, [(("value" : Str), w)], upd_same, ?_, ?_, ?_⟩⟩⟩
  · rw [upd_ne hne, upd_same]
  · rw [upd_ne hne] at hdx; exact hdx
  · have hdx' : H1 dx = none := by rw [upd_ne hne] at hdx; exact hdx
    have eq : upd (L2.del (upd (upd (upd H1 p (exo p C none)) dx (exd dx [(("value" : Str), w)])) p (exo p C (some dx))) p) dx (.xd [(("value" : Str), w)]) = upd H1 dx (.xd [(("value" : Str), w)]) := by
      funext b
      by_cases h1 : b = dx
      · rw [h1, upd_same, upd_same]
      · rw [upd_ne h1, upd_ne h1]
        by_cases h2 : b = p
        · rw [h2, del_same, hp]
        · rw [del_ne h2, upd_ne h2, upd_ne h1, upd_ne h2]
    rw [eq]
    exact l μ1 ρ C d dx w σ _ hx (g1.trans (Grow.new hdx')) (m1.new hdx') ((e.grow g1).grow (Grow.new hdx')) (m1.free hdx') upd_same (Den.grow (Grow.new hdx') _ _ a)
theorem envIs_start {N : List Str} : ∀ {ds : List D} {vs : List V}, DenL K μ H ds vs → EnvIs K μ H (startD N ds) (L2.start N vs) := fun {ds vs} h => by
  have hl := h.length
  refine ⟨?_, fun i d e => ?_⟩
  · unfold L2.start startD
    simp only [List.length_append, List.length_map, List.length_replicate]
    omega
  · unfold startD at e
    unfold L2.start
    by_cases hi : i < ds.length
    · rw [List.getElem?_append_left (by rw [List.length_map]; exact hi), List.getElem?_map] at e
      rw [List.getElem?_append_left (by rw [List.length_map]; omega), List.getElem?_map]
      cases q : ds[i]? with
      | none => rw [q] at e; cases e
      | some x =>
        rw [q] at e
        cases e
        obtain ⟨v, h1, h2⟩ := h.get q
        exact ⟨v, by rw [h1]; rfl, h2⟩
    · rw [List.getElem?_append_right (by rw [List.length_map]; omega)] at e
      by_cases hj : i - (ds.map some).length < N.length - ds.length
      · rw [List.getElem?_replicate, if_pos hj] at e
        cases e
      · rw [List.getElem?_replicate, if_neg hj] at e
        cases e
end
section
variable {P : Program} {w : World} {K : PySem.W.Frag} {mg : Str → Option Value} {base : Heap}
/-- a def keeps its promise; no exception leaves it -/
theorem def_ok {x qual : Str} {st : Stmt} {f : Addr} {fd : FuncData} {N ps : List Str} {k : Nat} {Pd : PD} (F : Fun K x qual st f fd) (S : FnScope N ps (defScope st))
    (hb : ∀ (cdv : Value) (A : Around) (outer : List Env) (s : Shared) (H : Hp) (E : XK), Room k (A.deeper (envOfC qual (defScope st) s.heap.objs.size f cdv)) →
      ∃ t, PSs (cxOf CX0 P w K mg base N qual (defScope st) f cdv A outer s H E).nox (defBody st) t ∧ ∀ μ ds post exc, ds.length = ps.length → Pd μ ds post exc → GS K WN XN μ (startD N ds) t { nx := fun m _ => post m .non, rt := post }) :
    FnOk P w K mg base CX0 (k + 1) f fd ps (spD K ps.length Pd) := by
  refine F.ok S (fun vs H Q E h => ?_) fun cdv A outer s H vs Q E hr h => ?_
  · obtain ⟨μ, ds, post, exc, _, d, hl, _⟩ := h
    rw [← d.length, hl]
  · obtain ⟨μ, ds, post, exc, m, d, hl, hp, h1, h2⟩ := h
    obtain ⟨t, ht, hg⟩ := hb cdv A outer s H E hr
    refine ⟨t, ht, hg μ ds post exc hl hp (L2.start N vs) H _ m (envIs_start d) (fun _ _ _ _ _ _ _ _ z => z.elim) ⟨?_, ?_, fun _ _ _ _ z => z.elim, fun _ _ _ _ z => z.elim⟩⟩
    · intro μ' ρ' σ' H' p gr mm ee
      exact h1 μ' .non .non H' p gr mm (by unfold Den; rfl)
    · intro μ' d v H' p gr mm dd
      exact h1 μ' d v H' p gr mm dd
/-- a def that may raise keeps its promise -/
theorem def_okX {x qual : Str} {st : Stmt} {f : Addr} {fd : FuncData} {N ps : List Str} {k : Nat} {Pd : PD} (F : Fun K x qual st f fd) (S : FnScope N ps (defScope st))
    (hb : ∀ (cdv : Value) (A : Around) (outer : List Env) (s : Shared) (H : Hp) (E : XK), Room k (A.deeper (envOfC qual (defScope st) s.heap.objs.size f cdv)) →
      ∃ t, PSs (cxOf (L2.CX P w) P w K mg base N qual (defScope st) f cdv A outer s H E) (defBody st) t ∧ ∀ μ ds post exc, ds.length = ps.length → Pd μ ds post exc → GS K (fun cls d _ H => E cls d H) (fun m _ C d => exc m C d) μ (startD N ds) t { nx := fun m _ => post m .non, rt := post }) :
    FnOk P w K mg base (L2.CX P w) (k + 1) f fd ps (spD K ps.length Pd) := by
  refine F.okX S (fun vs H Q E h => ?_) fun cdv A outer s H vs Q E hr h => ?_
  · obtain ⟨μ, ds, post, exc, _, d, hl, _⟩ := h
    rw [← d.length, hl]
  · obtain ⟨μ, ds, post, exc, m, d, hl, hp, h1, h2⟩ := h
    obtain ⟨t, ht, hg⟩ := hb cdv A outer s H E hr
    refine ⟨t, ht, hg μ ds post exc hl hp (L2.start N vs) H _ m (envIs_start d) ?_ ⟨?_, ?_, fun _ _ _ _ z => z.elim, fun _ _ _ _ z => z.elim⟩⟩
    · intro μ' ρ' C d dx v σ' H' p gr mm ee hx hd dd
      exact h2 μ' C d dx v H' p gr mm hx hd dd
    · intro μ' ρ' σ' H' p gr mm ee
      exact h1 μ' .non .non H' p gr mm (by unfold Den; rfl)
    · intro μ' d v H' p gr mm dd
      exact h1 μ' d v H' p gr mm dd
/-- another promise that follows -/
theorem fn_imp {CX : CXT} {k : Nat} {f : Addr} {fd : FuncData} {ps : List Str} {n : Nat} {P1 P2 : PD} (F : FnOk P w K mg base CX k f fd ps (spD K n P1)) (h : ∀ μ ds post exc, P2 μ ds post exc → P1 μ ds post exc) :
    FnOk P w K mg base CX k f fd ps (spD K n P2) := F.imp fun vs H Q E ⟨μ, ds, post, exc, m, d, hl, hp, r⟩ => ⟨μ, ds, post, exc, m, d, hl, h _ _ _ _ hp, r⟩
end
/-! ### while -/
section
variable {K : PySem.W.Frag} {W : WX} {X : XD} {μ μ' : Mu} {H H' : Hp} {ρ : Ro} {E : ED} {tt tu : TT} {Φ : DP} {t : TS}
theorem gs_while (Iv : Nat → Mu → Ro → Prop) (m0 : Nat) (h0 : Iv m0 μ ρ) (hs : ∀ m μ' ρ', Iv m μ' ρ' → EvB K W X μ' ρ' tt fun μ1 b => if b = true then GS K W X μ1 ρ' t { E with nx := fun μ2 ρ2 => ∃ m', m' < m ∧ Iv m' μ2 ρ2, ct := fun μ2 ρ2 => ∃ m', m' < m ∧ Iv m' μ2 ρ2, bk := E.nx } else E.nx μ1 ρ') :
    GS K W X μ ρ (tWhile tt t) E := fun σ H D mm e l k => by
  refine ⟨fun m σ' H' => ∃ μ' ρ', Iv m μ' ρ' ∧ Grow μ H μ' H' ∧ Mem K μ' H' ∧ EnvIs K μ' H' ρ' σ', ⟨m0, μ, ρ, h0, Grow.refl _ _, mm, e⟩, ?_⟩
  rintro m σ' H' ⟨μ', ρ', p, gr, m1, ee⟩
  refine hs m μ' ρ' p σ' H' _ m1 ee (l.grow gr) fun μ1 b H1 h1 g1 m2 => ?_
  cases b with
  | false =>
    rw [if_neg (by decide)] at h1 ⊢
    exact k.nx _ _ _ _ h1 (gr.trans g1) m2 (ee.grow g1)
  | true =>
    rw [if_pos rfl] at h1 ⊢
    have gg := gr.trans g1
    refine ⟨_, fun _ _ z => z, h1 σ' H1 _ m2 (ee.grow g1) (l.grow gg) ⟨?_, fun _ _ _ _ h x => k.rt _ _ _ _ h (gg.trans x), fun _ _ _ _ h x => k.nx _ _ _ _ h (gg.trans x), ?_⟩⟩
    · rintro μ2 ρ2 σ2 H2 ⟨m', hm, q⟩ g2 m3 e3
      exact ⟨m', hm, μ2, ρ2, q, gg.trans g2, m3, e3⟩
    · rintro μ2 ρ2 σ2 H2 ⟨m', hm, q⟩ g2 m3 e3
      exact ⟨m', hm, μ2, ρ2, q, gg.trans g2, m3, e3⟩
end
/-! ### operations of wide ints -/
def CMulB (i j : Int) : Prop := ∃ a b : Nat, i.natAbs < 2 ^ a ∧ j.natAbs < 2 ^ b ∧ a + b ≤ 134000000
def CPowB (i j : Int) : Prop := 0 ≤ j ∧ ∃ a : Nat, i.natAbs < 2 ^ a ∧ a * j.toNat ≤ 134000000
def CDivB (_ j : Int) : Prop := j ≠ 0 ∧ j.natAbs < 2 ^ 9000
theorem intBits_le {x : Int} {a : Nat} (h : x.natAbs < 2 ^ a) : Builtin.Int.intBits x ≤ a := by
  unfold Builtin.Int.intBits
  split
  · omega
  · rename_i hx
    have h0 : x.natAbs ≠ 0 := by simpa using hx
    have : x.natAbs.log2 < a := (Nat.log2_lt h0).mpr h
    omega
theorem CMulB.ok {i j : Int} (h : CMulB i j) : IntMulOk i j := by
  obtain ⟨a, b, h1, h2, h3⟩ := h
  have b1 := intBits_le h1
  have b2 := intBits_le h2
  have e : bitsLine = 134217728 := by decide
  unfold IntMulOk
  intro z
  rw [Bool.and_eq_true] at z
  have z2 := z.2
  unfold Builtin.Int.intTooBig at z2
  have z3 := of_decide_eq_true z2
  rw [e] at z3
  omega
/-- either reading -/
def rOr (r r' : R2) : R2 := fun x y H Q => r x y H Q ∨ r' x y H Q
section
variable {X : Cx}
theorem op_or2 {f : Value → Value → Sem Value} {r r' : R2} (a : OpR X f r) (b : OpR X f r') : OpR X f (rOr r r') := fun pins s σ H x y v u Q I rx ry h => by
  rcases h with h | h
  · exact a pins s σ H x y v u Q I rx ry h
  · exact b pins s σ H x y v u Q I rx ry h
theorem op_mulB : OpR X (binaryOp .Mult) (rI CMulB fun i j => .int (i * j)) := opI fun _ _ _ _ _ _ _ hc q => mul_int q hc.ok
theorem op_divB : OpR X (binaryOp .FloorDiv) (rI CDivB fun i j => .int (i.fdiv j)) := opI fun _ _ _ _ _ _ _ hc q => floordiv_int hc.1 q (.inl (PyProof.noPylong_of_log2 ((Nat.log2_lt (by have := hc.1; omega)).mpr hc.2)))
theorem op_powB : OpR X (binaryOp .Pow) (rI CPowB fun i j => .int (i ^ j.toNat)) := opI fun i j _ _ _ _ _ hc q => by
  obtain ⟨h0, a, h1, h2⟩ := hc
  refine pow_int h0 ?_ q
  have b1 := intBits_le h1
  have e : ((j.toNat : Nat) : Int) = j := Int.toNat_of_nonneg h0
  have : Builtin.Int.intBits i * j.toNat ≤ 134000000 := Nat.le_trans (Nat.mul_le_mul_right _ b1) h2
  rw [← e]
  have q2 : ((Builtin.Int.intBits i * j.toNat : Nat) : Int) ≤ ((134000000 : Nat) : Int) := Int.ofNat_le.mpr this
  rw [Int.natCast_mul] at q2
  exact Int.le_trans q2 (by decide)
/-- a + b: ints, texts, lists, tuples -/
def rAddS : R2 := fun x y H Q => ∃ i j, x = .str i ∧ y = .str j ∧ i.length + j.length ≤ sizeLine ∧ Q (.str (i ++ j)) H
theorem op_addS : OpR X (binaryOp .Add) rAddS := op_add_str
abbrev rAddU (K : PySem.W.Frag) : R2 := rOr (rI0 fun i j => .int (i + j)) (rOr rAddS (rOr rCat (rCatT K)))
theorem op_addU : OpR X (binaryOp .Add) (rAddU X.K) := op_or2 op_add (op_or2 op_addS (op_or2 op_cat op_catT))
abbrev rMulU : R2 := rOr (rI CMulB fun i j => .int (i * j)) rRep
theorem op_mulU : OpR X (binaryOp .Mult) rMulU := op_or2 op_mulB op_rep
abbrev rEqU (K : PySem.W.Frag) : R2 := rOr rEq (rEqD K)
abbrev rNeU (K : PySem.W.Frag) : R2 := rOr rNe (rNeD K)
theorem op_eqU (hu : X.A.units + 64 < cLine) : OpR X (compareOp .Eq) (rEqU X.K) := op_or2 op_eq (op_eqD hu)
theorem op_neU (hu : X.A.units + 64 < cLine) : OpR X (compareOp .NotEq) (rNeU X.K) := op_or2 op_ne (op_neD hu)
end
/-! ### over data -/
section
variable {K : PySem.W.Frag} {W : WX} {X : XD} {μ μ' : Mu} {H H' : Hp} {ρ : Ro} {E : ED} {ta tb te tx tl : TE} {Φ : DP} {x y : D} {r r' : R2} {i j : Int}
theorem opx_l (h : OpX K r μ x y Φ) : OpX K (rOr r r') μ x y Φ := fun H v w Q m a b k => .inl (h H v w Q m a b k)
theorem opx_r (h : OpX K r' μ x y Φ) : OpX K (rOr r r') μ x y Φ := fun H v w Q m a b k => .inr (h H v w Q m a b k)
theorem opx_i {C : Int → Int → Prop} {g : Int → Int → Int} (hc : C i j) (h : Φ μ (.int (g i j))) : OpX K (rI C fun i j => .int (g i j)) μ (.int i) (.int j) Φ := fun H v w Q m a b k => by
  unfold Den at a b
  exact ⟨i, j, a, b, hc, k μ _ _ H h (Grow.refl _ _) m (by unfold Den; rfl)⟩
theorem opx_i0 {g : Int → Int → Int} (h : Φ μ (.int (g i j))) : OpX K (rI0 fun i j => .int (g i j)) μ (.int i) (.int j) Φ := fun H v w Q m a b k => by
  unfold Den at a b
  exact ⟨i, j, a, b, k μ _ _ H h (Grow.refl _ _) m (by unfold Den; rfl)⟩
theorem opx_b0 {g : Int → Int → Bool} (h : Φ μ (.bl (g i j))) : OpX K (rI0 fun i j => .bl (g i j)) μ (.int i) (.int j) Φ := fun H v w Q m a b k => by
  unfold Den at a b
  exact ⟨i, j, a, b, k μ _ _ H h (Grow.refl _ _) m (by unfold Den; rfl)⟩
theorem opx_addS {a b : Str} (hl : a.length + b.length ≤ 1000000) (h : Φ μ (.str (a ++ b))) : OpX K rAddS μ (.str a) (.str b) Φ := fun H v w Q m p q k => by
  unfold Den at p q
  exact ⟨a, b, p, q, Nat.le_trans hl (by decide), k μ _ _ H h (Grow.refl _ _) m (by unfold Den; rfl)⟩
theorem opx_eqI (h : Φ μ (.bl (decide (i = j)))) : OpX K rEq μ (.int i) (.int j) Φ := fun H v w Q m a b k => by
  unfold Den at a b
  subst a b
  refine ⟨rfl, k μ _ _ H h (Grow.refl _ _) m ?_⟩
  unfold Den
  congr 1
  simp
theorem opx_neI (h : Φ μ (.bl (!decide (i = j)))) : OpX K rNe μ (.int i) (.int j) Φ := fun H v w Q m a b k => by
  unfold Den at a b
  subst a b
  refine ⟨rfl, k μ _ _ H h (Grow.refl _ _) m ?_⟩
  unfold Den
  congr 1
  simp
theorem opx_eqS {i j : Str} (h : Φ μ (.bl (decide (i = j)))) : OpX K rEq μ (.str i) (.str j) Φ := fun H v w Q m a b k => by
  unfold Den at a b
  subst a b
  refine ⟨rfl, k μ _ _ H h (Grow.refl _ _) m ?_⟩
  unfold Den
  congr 1
  simp
theorem opx_neS {i j : Str} (h : Φ μ (.bl (!decide (i = j)))) : OpX K rNe μ (.str i) (.str j) Φ := fun H v w Q m a b k => by
  unfold Den at a b
  subst a b
  refine ⟨rfl, k μ _ _ H h (Grow.refl _ _) m ?_⟩
  unfold Den
  congr 1
  simp
theorem opx_eqB {i j : Bool} (h : Φ μ (.bl (decide (i = j)))) : OpX K rEq μ (.bl i) (.bl j) Φ := fun H v w Q m a b k => by
  unfold Den at a b
  subst a b
  refine ⟨rfl, k μ _ _ H h (Grow.refl _ _) m ?_⟩
  unfold Den
  congr 1
  simp
theorem opx_neB {i j : Bool} (h : Φ μ (.bl (!decide (i = j)))) : OpX K rNe μ (.bl i) (.bl j) Φ := fun H v w Q m a b k => by
  unfold Den at a b
  subst a b
  refine ⟨rfl, k μ _ _ H h (Grow.refl _ _) m ?_⟩
  unfold Den
  congr 1
  simp
def isNon : D → Bool
  | .non => true
  | _ => false
theorem den_non {d : D} {v : V} (h : Den K μ H d v) : decide (v = .non) = isNon d := by
  cases d <;> unfold Den at h <;> unfold isNon
  case non => rw [h]; rfl
  case bl => rw [h]; rfl
  case int => rw [h]; rfl
  case str => rw [h]; rfl
  case ty => rw [h]; rfl
  case «at» => rw [h]; rfl
  case tup => obtain ⟨p, vs, e, _⟩ := h; rw [e]; rfl
  case lst => obtain ⟨p, vs, e, _⟩ := h; rw [e]; rfl
  case frz => obtain ⟨p, vs, e, _⟩ := h; rw [e]; rfl
  case dct => obtain ⟨p, vs, e, _⟩ := h; rw [e]; rfl
  case obj => obtain ⟨p, dx, vs, e, _⟩ := h; rw [e]; rfl
  case exc => obtain ⟨p, dx, vs, e, _⟩ := h; rw [e]; rfl
theorem evx_isN (h : EvX K W X μ ρ te fun μ1 d => Φ μ1 (.bl (isNon d))) : EvX K W X μ ρ (tIsN te) Φ := fun σ H Q m e l k =>
  h σ H _ m e l fun μ1 d v H1 h1 g1 m1 d1 => k μ1 _ _ H1 h1 g1 m1 (by rw [den_non d1]; unfold Den; rfl)
theorem evx_notN (h : EvX K W X μ ρ te fun μ1 d => Φ μ1 (.bl (!isNon d))) : EvX K W X μ ρ (tNotN te) Φ := fun σ H Q m e l k =>
  h σ H _ m e l fun μ1 d v H1 h1 g1 m1 d1 => k μ1 _ _ H1 h1 g1 m1 (by rw [den_non d1]; unfold Den; rfl)
theorem unx_i {g : Int → Int} (h : Φ μ (.int (g i))) : UnX K (rU fun i => .int (g i)) μ (.int i) Φ := fun H v Q m a k => by
  unfold Den at a
  exact ⟨i, a, k μ _ _ H h (Grow.refl _ _) m (by unfold Den; rfl)⟩
/-! ### built-ins -/
theorem denL1 {d : D} {vs : List V} (h : DenL K μ H [d] vs) : ∃ v, vs = [v] ∧ Den K μ H d v := by
  unfold DenL at h
  obtain ⟨v, ws, e, a, b⟩ := h
  unfold DenL at b
  subst b
  exact ⟨v, e, a⟩
theorem denL2 {d d' : D} {vs : List V} (h : DenL K μ H [d, d'] vs) : ∃ v v', vs = [v, v'] ∧ Den K μ H d v ∧ Den K μ H d' v' := by
  unfold DenL at h
  obtain ⟨v, ws, e, a, b⟩ := h
  obtain ⟨v', e', b'⟩ := denL1 b
  subst e'
  exact ⟨v, v', e, a, b'⟩
theorem cax_abs (h : Φ μ (.int (if i < 0 then -i else i))) : CaX K (fun xs H Q => ∃ i, xs = [.int i] ∧ Q (.int (if i < 0 then -i else i)) H) μ [.int i] Φ := fun H vs Q m d k => by
  obtain ⟨v, e, a⟩ := denL1 d
  unfold Den at a
  subst a
  exact ⟨i, e, k μ _ _ H h (Grow.refl _ _) m (by unfold Den; rfl)⟩
theorem cax_int (h : Φ μ (.int i)) : CaX K (fun xs H Q => (∃ i, xs = [.int i] ∧ Q (.int i) H) ∨ ∃ k, xs = [.bl k] ∧ Q (.int (if k then 1 else 0)) H) μ [.int i] Φ := fun H vs Q m d k => by
  obtain ⟨v, e, a⟩ := denL1 d
  unfold Den at a
  subst a
  exact .inl ⟨i, e, k μ _ _ H h (Grow.refl _ _) m (by unfold Den; rfl)⟩
theorem cax_intB {b : Bool} (h : Φ μ (.int (if b then 1 else 0))) : CaX K (fun xs H Q => (∃ i, xs = [.int i] ∧ Q (.int i) H) ∨ ∃ k, xs = [.bl k] ∧ Q (.int (if k then 1 else 0)) H) μ [.bl b] Φ := fun H vs Q m d k => by
  obtain ⟨v, e, a⟩ := denL1 d
  unfold Den at a
  subst a
  exact .inr ⟨b, e, k μ _ _ H h (Grow.refl _ _) m (by unfold Den; rfl)⟩
theorem cax_gcd (h : Φ μ (.int ((Nat.gcd i.natAbs j.natAbs : Nat) : Int))) : CaX K rGcd μ [.int i, .int j] Φ := fun H vs Q m d k => by
  obtain ⟨v, v', e, a, b⟩ := denL2 d
  unfold Den at a b
  subst a b
  exact ⟨i, j, e, k μ _ _ H h (Grow.refl _ _) m (by unfold Den; rfl)⟩
theorem cax_max2 (h : Φ μ (.int (if j > i then j else i))) : CaX K (fun xs H Q => ∃ i j, xs = [.int i, .int j] ∧ Q (.int (if j > i then j else i)) H) μ [.int i, .int j] Φ := fun H vs Q m d k => by
  obtain ⟨v, v', e, a, b⟩ := denL2 d
  unfold Den at a b
  subst a b
  exact ⟨i, j, e, k μ _ _ H h (Grow.refl _ _) m (by unfold Den; rfl)⟩
theorem cax_min2 (h : Φ μ (.int (if j < i then j else i))) : CaX K (fun xs H Q => ∃ i j, xs = [.int i, .int j] ∧ Q (.int (if j < i then j else i)) H) μ [.int i, .int j] Φ := fun H vs Q m d k => by
  obtain ⟨v, v', e, a, b⟩ := denL2 d
  unfold Den at a b
  subst a b
  exact ⟨i, j, e, k μ _ _ H h (Grow.refl _ _) m (by unfold Den; rfl)⟩
/-- len: a list (kept, frozen or one that may change), a tuple, a text -/
def LenD (μ : Mu) : D → Nat → Prop
  | .lst ds, n => n = ds.length
  | .frz ds, n => n = ds.length
  | .tup ds, n => n = ds.length
  | .str z, n => z.length ≤ 1000000 ∧ n = z.length
  | .at a, n => ∃ ds, μ a = some (.lst ds) ∧ n = ds.length
  | _, _ => False
theorem cax_len {n : Nat} (hx : LenD μ x n) (h : Φ μ (.int n)) : CaX K (fun xs H Q => ∃ x n, xs = [x] ∧ LenV K x H n ∧ Q (.int n) H) μ [x] Φ := fun H vs Q m d k => by
  obtain ⟨v, e, a⟩ := denL1 d
  refine ⟨v, n, e, ?_, k μ _ _ H h (Grow.refl _ _) m (by unfold Den; rfl)⟩
  cases x <;> unfold Den at a <;> unfold LenD at hx <;> try exact hx.elim
  case str => subst a; exact ⟨Nat.le_trans hx.1 (by decide), hx.2⟩
  case tup =>
    obtain ⟨p, us, e, s, b⟩ := a
    subst e
    exact .inr ⟨us, s.sq, by rw [hx, b.length]⟩
  case lst =>
    obtain ⟨p, us, e, s, b⟩ := a
    subst e
    exact .inl ⟨us, SqL.of s.2, by rw [hx, b.length]⟩
  case frz =>
    obtain ⟨p, us, e, s, b⟩ := a
    subst e
    exact .inl ⟨us, s.sq, by rw [hx, b.length]⟩
  case «at» =>
    obtain ⟨ds, q, en⟩ := hx
    obtain ⟨us, e1, b⟩ := m _ _ q
    subst a
    exact .inl ⟨us, SqL.of e1, by rw [en, b.length]⟩
/-! ### items -/
/-- the items of something that has a place for each -/
def ItemsD (μ : Mu) : D → List D → Prop
  | .lst ds, es => es = ds
  | .frz ds, es => es = ds
  | .tup ds, es => es = ds
  | .at a, es => μ a = some (.lst es)
  | _, _ => False
theorem atI_den {ds : List D} {vs : List V} {i : Int} {d : D} (b : DenL K μ H ds vs) (h : atI ds i = some d) : ∃ v, atI vs i = some v ∧ Den K μ H d v := by
  unfold atI at h ⊢
  rw [← b.length]
  cases q : ixN ds.length i with
  | none => rw [q] at h; cases h
  | some j =>
    rw [q] at h
    have h' : ds[j]? = some d := h
    obtain ⟨v, h1, h2⟩ := b.get h'
    exact ⟨v, h1, h2⟩
theorem opx_ix {es : List D} {d : D} (hx : ItemsD μ x es) (ha : atI es i = some d) (h : Φ μ d) : OpX K (rIx K) μ x (.int i) Φ := fun H v w Q m a b k => by
  unfold Den at b
  subst b
  cases x <;> unfold Den at a <;> unfold ItemsD at hx <;> try exact hx.elim
  case tup =>
    obtain ⟨p, us, e, s, b⟩ := a
    subst e hx
    obtain ⟨u, q1, q2⟩ := atI_den b ha
    exact .inr (.inl ⟨p, us, i, u, rfl, rfl, s.sq, q1, k μ _ _ H h (Grow.refl _ _) m q2⟩)
  case lst =>
    obtain ⟨p, us, e, s, b⟩ := a
    subst e hx
    obtain ⟨u, q1, q2⟩ := atI_den b ha
    exact .inl ⟨p, us, i, u, rfl, rfl, SqL.of s.2, q1, k μ _ _ H h (Grow.refl _ _) m q2⟩
  case frz =>
    obtain ⟨p, us, e, s, b⟩ := a
    subst e hx
    obtain ⟨u, q1, q2⟩ := atI_den b ha
    exact .inl ⟨p, us, i, u, rfl, rfl, s.sq, q1, k μ _ _ H h (Grow.refl _ _) m q2⟩
  case «at» =>
    obtain ⟨us, e1, b⟩ := m _ _ hx
    subst a
    obtain ⟨u, q1, q2⟩ := atI_den b ha
    exact .inl ⟨_, us, i, u, rfl, rfl, SqL.of e1, q1, k μ _ _ H h (Grow.refl _ _) m q2⟩
theorem opx_ixS {z : Str} {c : Nat} (hz : z.length ≤ 1000000) (ha : atI z.cps.toList i = some c) (h : Φ μ (.str ⟨#[c]⟩)) : OpX K (rIx K) μ (.str z) (.int i) Φ := fun H v w Q m a b k => by
  unfold Den at a b
  subst a b
  exact .inr (.inr ⟨z, i, c, rfl, rfl, Nat.le_trans hz (by decide), ha, k μ _ _ H h (Grow.refl _ _) m (by unfold Den; rfl)⟩)
theorem atI_pos {α : Type} {xs : List α} {n : Nat} {v : α} (h : xs[n]? = some v) : atI xs (n : Int) = some v := atI_nat h
/-- x[i] = e -/
theorem tgx_sub {to ti : TE} {d : D} {Φ : Mu → Ro → Prop} (h : EvX K W X μ ρ to fun μ1 o => EvX K W X μ1 ρ ti fun μ2 i => ∃ a ds k j, o = .at a ∧ i = .int k ∧ μ2 a = some (.lst ds) ∧ ixN ds.length k = some j ∧ Φ (mput μ2 a (.lst (ds.set j d))) ρ) :
    TgX K W X μ ρ (gSub to ti rSetL) d Φ := fun σ H v Q m e l dd k =>
  h σ H _ m e l fun μ1 o ov H1 h1 g1 m1 d1 => h1 σ H1 _ m1 (e.grow g1) (l.grow g1) fun μ2 i iv H2 ⟨a, ds, kk, j, e1, e2, ha, hj, hp⟩ g2 m2 d2 => by
    subst e1 e2
    unfold Den at d1 d2
    subst d1 d2
    obtain ⟨us, q, b⟩ := m2 a _ ha
    have gg := g1.trans g2
    refine ⟨a, us, kk, j, rfl, rfl, q, by rw [← b.length]; exact hj, k _ ρ σ _ hp (gg.trans (Grow.wr ha)) (m2.wr ha ⟨_, upd_same, DenL.set (Den.grow (gg.trans (Grow.wr ha)) _ _ dd) j (DenL.grow (Grow.wr ha) _ _ b)⟩) ((e.grow gg).grow (Grow.wr ha))⟩
/-! ### methods of lists -/
theorem evx_append {to : TE} {p : Addr} {ds : List D} (ho : ∀ Φ : DP, Φ μ (.at p) → EvX K W X μ ρ to Φ) (h : EvX K W X μ ρ te fun μ1 d => ∃ ds, μ1 p = some (.lst ds) ∧ ds.length ≤ 1000000 ∧ Φ (mput μ1 p (.lst (ds ++ [d]))) .non) (h0 : μ p = some (.lst ds)) :
    EvX K W X μ ρ (tBM K "list" rAppend to (tCons te tNil)) Φ := fun σ H Q m e l k =>
  ho (fun μ1 d => μ1 = μ ∧ d = .at p) ⟨rfl, rfl⟩ σ H _ m e l fun μ0 d0 v0 H0 ⟨e1, e2⟩ g0 m0 d0' => by
    subst e1 e2
    unfold Den at d0'
    subst d0'
    obtain ⟨us0, q0, b0⟩ := m0 p _ h0
    refine ⟨.inl ⟨rfl, us0, SqL.of q0⟩, ?_⟩
    refine h σ H0 _ m0 (e.grow g0) (l.grow g0) fun μ1 d v H1 ⟨ds1, hp, hz, hq⟩ g1 m1 d1 => ?_
    obtain ⟨us, q, b⟩ := m1 p _ hp
    exact ⟨p, us, v, rfl, rfl, q, by rw [← b.length]; exact Nat.lt_of_le_of_lt hz (by decide), k _ _ _ _ hq ((g0.trans g1).trans (Grow.wr hp)) (m1.wr hp ⟨_, upd_same, (DenL.grow (Grow.wr hp) _ _ b).append (DenL.cons (Den.grow (Grow.wr hp) _ _ d1) DenL.nil)⟩) (by unfold Den; rfl)⟩
end
section
variable {X : Cx} {pins : List (Addr × Obj)} {σ : L2.St} {H : Hp} {s : Shared}
/-- an object of ours, untracked till now, is tracked from now on -/
theorem inv_track {a : Addr} {o : HO} (I : L2.Inv X pins σ H s) (hn : H a = none) (h0 : X.s_0.heap.get? a = none) (hL : a ≠ X.env.locals) (hc : ∀ x c, X.env.cells.lookup x = some c → c ≠ a) (hp : ∀ p ∈ X.pn ++ pins, p.1 ≠ a)
    (ok : ObjOk X.prog X.w (upd H a o) s.heap a o) : L2.Inv X pins σ (upd H a o) s := by
  have ne : ∀ {b u}, H b = some u → b ≠ a := fun {b u} e z => by rw [z, hn] at e; cases e
  have n0 : ∀ {b u}, X.s_0.heap.get? b = some u → b ≠ a := fun {b u} e z => by rw [z, h0] at e; cases e
  have B := I.base
  have base' : Un X.fs X.ex X.H_0 (upd H a o) X.s_0.heap s.heap := {
    keep := B.keep
    slot := B.slot
    free := fun b u e q x => (upd_ne (n0 e)).trans (B.free b u e q x)
    there := B.there
    tups := fun b xs e => (upd_ne (ne (B.tups b xs e))).trans (B.tups b xs e)
    frzs := fun b u v e => (upd_ne (ne (B.frzs b u v e))).trans (B.frzs b u v e)
    tbls := fun b ps e => by
      obtain ⟨m, q⟩ := B.tbls b ps e
      exact ⟨m, (upd_ne (ne q)).trans q⟩ }
  refine ⟨I.ok, I.os, I.bare, base', I.loc, I.cell, (upd_ne (Ne.symm hL)).trans I.free, fun x c e => (upd_ne (hc x c e)).trans (I.freeC x c e), fun p q => ?_, fun b u e => ?_, I.len⟩
  · obtain ⟨h1, h2, h3⟩ := I.pin p q
    exact ⟨h1, (upd_ne (hp p q)).trans h2, h3⟩
  · by_cases hb : b = a
    · subst hb
      rw [upd_same] at e
      cases e
      exact ok
    · rw [upd_ne hb] at e
      exact (I.hok b u e).stay (fun _ _ _ z => z) (fun c q => (upd_ne (ne q)).trans q) fun c xs q => (upd_ne (ne q)).trans q
/-- what a clause «except x as n», that keeps the error, wishes of the body's errors -/
def wKeep (K : PySem.W.Frag) (c : Value) (i : Nat) (ts : Addr → TS) (Dd : Ends) : WX := fun cls d σ H => ∃ C dx, cls = .ref C ∧ d = some dx ∧ PySem.W.exmOne K cls c = some true ∧
  ∀ a, H a = none → ts a { nx := fun σ' H' => H' a = none → Dd.nx (σ'.set i none) (upd H' a (ExT a C dx)), rt := fun v H' => H' a = none → Dd.rt v (upd H' a (ExT a C dx)) } (σ.set i (some (.ref a))) H
/-- try: body, except c as n: suite, the error kept -/
def tTry (K : PySem.W.Frag) (c : Value) (i : Nat) (ts : Addr → TS) (tb : WX → TS) : TS := fun Dd σ H => tb (wKeep K c i ts Dd) Dd σ H
variable {x n : Str} {c : Value} {i : Nat} {body suite : List Stmt} {b0 : Stmt} {np pos pos' : Pos} {tb : WX → TS} {ts : Addr → TS}
theorem ps_try_keep (hs : X.stack = X.env :: X.outer) (hf : X.env.frame = some X.env.locals) (hex : X.ex = []) (hN : X.N.Nodup) (hi : X.N[i]? = some n) (hln : X.env.kindOf n = some .local) (hc : Names X x c)
    (hb : ∀ (W : WX) (pn : List (Addr × Obj)) (xe : Value → Shared → Prop), Takes (X.tr pn xe) W → PassesOwn (model X.prog X.w) X.A X.env xe → PSs (X.tr pn xe) body (tb W))
    (hsu : ∀ (a : Addr) (oe : Obj) (pn : List (Addr × Obj)), PSs (X.suite a ((a, oe) :: pn)) (b0 :: suite) (ts a)) :
    PS X (.Try body [.ExceptHandler (some (.Name x np)) (some n) (b0 :: suite) pos'] [] [] pos) (tTry X.K c i ts tb) := by
  constructor
  intro pins s σ H Dd I h
  have ok := I.ok
  have hfr : X.A.frames = some (X.env :: X.outer) := by rw [ok.frames, hs]
  apply wpAny_Try_except
  let xq : Value → Shared → Prop := fun e s₁ => wpAny (model X.prog X.w) X.A (noteFrame e X.env) (fun _ s₂ => wpAny (model X.prog X.w) X.A (setFlight e none) (fun _ s₃ =>
    wpAny (model X.prog X.w) X.A (handleBy e X.env [.ExceptHandler (some (.Name x np)) (some n) (b0 :: suite) pos']) (SP X pins Dd) X.xe s₃) X.xe s₂) X.xe s₁
  have caught : Takes (X.tr (X.pn ++ pins) xq) (wKeep X.K c i ts Dd) := by
    intro u s' xx
    obtain ⟨a, B, sI, pins', σ', H', cls, d, hu, J', nb, up, sky, na, os, ag, C, dx, hcls, hd, hm, hgo⟩ := xx
    subst hu hcls hd
    have J : L2.Inv X pins σ' H' sI := J'.ofTry ok
    have sky2 : Sky B (X.env :: X.outer) a (Zc (.ref C) (some dx)) X.env.locals s'.heap := by
      rw [← hs]
      exact sky
    show wpAny (model X.prog X.w) X.A (noteFrame (.ref a) X.env) _ _ _
    apply Sky.land Zc.steady hfr hf sky2
    intro h3 fl3 up3
    have J3 : L2.Inv X pins σ' H' { s' with heap := h3 } := J.landed nb fl3.1 (up.trans up3) os ag
    obtain ⟨o3, v3, he3, hz3, hd3⟩ := fl3.there
    have nfr : a ∉ frs (X.env :: X.outer) := fun hm => by
      obtain ⟨_, o', e', hnf⟩ := fl3.2.2.1.mem hm
      rw [he3] at e'
      cases e'
      exact hnf _ hd3
    have nL : a ≠ X.env.locals := fun z => nfr (List.mem_filterMap.mpr ⟨X.env, List.mem_cons_self, by rw [hf, z]⟩)
    have nF : a ∉ X.fs := fun hm => by
      obtain ⟨e, he, q⟩ := List.mem_filterMap.mp hm
      exact nfr (List.mem_filterMap.mpr ⟨e, List.mem_cons_of_mem _ he, q⟩)
    -- the error is younger than the state it flew from
    have young : sI.heap.get? a = none := by
      cases e : sI.heap.get? a with
      | none => rfl
      | some o =>
        have q := nb a o e (by show a ∉ frs X.stack; rw [hs]; exact nfr)
        have q2 : B.get? a = none := fl3.2.1
        rw [q2] at q
        cases q
    have y0 : X.s_0.heap.get? a = none := by
      cases e : X.s_0.heap.get? a with
      | none => rfl
      | some o =>
        obtain ⟨o', q⟩ := J.base.there a o e (by rw [hex]; exact List.not_mem_nil)
        rw [young] at q
        cases q
    have yc : ∀ x c, X.env.cells.lookup x = some c → c ≠ a := fun y cc e z => by
      obtain ⟨v, o, q, _⟩ := J.cell y cc e
      rw [z, young] at q
      cases q
    have yp : ∀ p ∈ X.pn ++ pins, p.1 ≠ a := fun p hp z => by
      have q := (J.pin p hp).1
      rw [z, young] at q
      cases q
    have S3 := J3.suite he3 hd3 na nL nF
    refine wpAny_handleBy_cons (codeAny_handlers_test ?_) (by intro q; cases q)
    have LT : PySem.W.Looks (model X.prog X.w) h3 (typeOf (.ref a)) (.ref C) := fun A Q E s k q => wpAny_typeOf_ref (k _ _ he3) (by rw [hz3.1]; exact q)
    have LM := PySem.W.exm_one (M := model X.prog X.w) (J3.kIn) LT hm
    have test : ∀ {Q : Value → Shared → Prop} {E : Value → Shared → Prop}, Q c { s' with heap := h3 } → wpAny (model X.prog X.w) (X.A.mark (some (.ref a))) (eval (.Name x np) X.env) Q E { s' with heap := h3 } := by
      intro Q E q
      rcases hc with ⟨hg, hdbg, hm1 | ⟨hm1, hv, hnn⟩⟩
      · exact ld_glob (X := X.suite a ((a, o3) :: (X.pn ++ pins))) S3 hg hm1 q hdbg
      · exact ld_blt (X := X.suite a ((a, o3) :: (X.pn ++ pins))) S3 hg hm1 hv q hnn hdbg
    refine test (LM.here ?_)
    refine codeAny_handlers_suite_as (HandSPX.lands_againZ fl3 fun h4 fl4 up4 => ?_)
    have J4 : L2.Inv X pins σ' H' { s' with heap := h4 } := J.landed nb fl4.1 ((up.trans up3).trans up4) os ag
    obtain ⟨o4, v4, he4, hz4, hd4⟩ := fl4.there
    have S4 := J4.suite he4 hd4 na nL nF
    refine store_ok (X := X.suite a ((a, o4) :: (X.pn ++ pins))) (v := .ref a) S4 hN hi (.inl hln) rfl (fun s5 S5 => ?_) (.inr hln)
    refine wpAny_mono ((hsu a o4 (X.pn ++ pins)).run [] s5 _ H' _ S5 (hgo a na)) (fun f s6 hsp => ?_) (fun _ _ z => False.elim z)
    have fin : ∀ {σ6 : L2.St} {H6 : Hp} {Q : Shared → Prop}, L2.Inv (X.suite a ((a, o4) :: (X.pn ++ pins))) [] σ6 H6 s6 → (∀ s7, H6 a = none → L2.Inv X pins (σ6.set i none) (upd H6 a (ExT a C dx)) s7 → Q s7) →
        wpAny (model X.prog X.w) X.A (do bindName X.env n .none; unbindBehindTheSuite X.env n pos') (fun _ s7 => Q s7) X.xe s6 := by
      intro σ6 H6 Q S6 hq
      obtain ⟨ga, gn, _⟩ := S6.pin (a, o4) (List.mem_append_left _ List.mem_cons_self)
      have T := inv_track (S6.unsuite ok) gn y0 nL yc yp (o := ExT a C dx) ⟨⟨o4, v4, ga, hz4.1, hz4.2, hd4⟩, ⟨o4, ga⟩, fun h1 h2 ⟨o, v, e, r⟩ k => ⟨o, v, k o e, r⟩⟩
      exact gone_ok T hN hi hln fun s7 J7 => hq s7 gn J7
    cases f with
    | next =>
      obtain ⟨σ6, H6, S6, q6⟩ := hsp
      exact fin S6 fun s7 g J7 => ⟨_, _, J7, q6 g⟩
    | brk =>
      obtain ⟨σ6, H6, S6, q6⟩ := hsp
      exact q6.elim
    | cont =>
      obtain ⟨σ6, H6, S6, q6⟩ := hsp
      exact q6.elim
    | ret u =>
      obtain ⟨v6, σ6, H6, S6, r6, q6⟩ := hsp
      exact fin S6 fun s7 g J7 => ⟨_, _, _, J7, r6, q6 g⟩
  refine wpAny_mono ((hb _ (X.pn ++ pins) xq caught PassesOwn.looking).run [] s σ H Dd (I.toTry _) h) (fun f s1 hsp => ?_) (fun e s1 he => he)
  rcases f with _ | _ | _ | u
  · obtain ⟨σ', H', J', q⟩ := hsp
    exact wpAny_execs_nil ⟨σ', H', J'.ofTry ok, q⟩
  · obtain ⟨σ', H', J', q⟩ := hsp
    exact ⟨σ', H', J'.ofTry ok, q⟩
  · obtain ⟨σ', H', J', q⟩ := hsp
    exact ⟨σ', H', J'.ofTry ok, q⟩
  · obtain ⟨v, σ', H', J', r, q⟩ := hsp
    exact ⟨v, σ', H', J'.ofTry ok, r, q⟩
end
/-- what the written part says of an own error's class -/
structure ExcK (K : PySem.W.Frag) (C : Addr) : Prop where
  ox : OexC K C
  nv : PySem.W.findIn K (.ref C) "value" = some none
  ga : PySem.W.findIn K (.ref C) "__getattribute__" = some (some (.builtin "BaseException.__getattribute__"))
  gg : PySem.W.findIn K (.ref C) "__getattr__" = some none
  hd : PySem.W.hasDictIn K C = true
  ha : PySem.W.findIn K (.ref C) "__class__" = some (some (.builtin "object.__class__"))
  hm : PySem.W.mroIn K C (.type "object") = some true
/-- what it says of the getter of classes -/
structure ClsG (K : PySem.W.Frag) : Prop where
  hn : PySem.W.specialIn K (.builtin "object.__class__") "__get__" = some (some (.builtin "getset_descriptor.__get__"))
  ht : PySem.W.takesIn K (.builtin "object.__class__") = some true
section
variable {X : Cx} {H : Hp} {a C : Addr}
theorem ext_at {s : Shared} {pins : List (Addr × Obj)} {σ : L2.St} {dx : Addr} (I : L2.Inv X pins σ H s) (h : H a = some (ExT a C dx)) : ∃ (oe : Obj) (vs : Array Value), s.heap.get? a = some oe ∧ oe.cls = .ref C ∧ oe.dict = some dx ∧ oe.data = .fields vs := (I.hok a _ h).1
/-- e.value -/
def tXv (K : PySem.W.Frag) (te : TE) : TE := fun σ H Q => te σ H fun x H1 => ∃ (a C dx : Addr) (v : V), x = .ref a ∧ H1 a = some (ExT a C dx) ∧ ExcK K C ∧ H1 dx = some (.xd [(("value" : Str), v)]) ∧ Q v H1
theorem pe_xv {e : Expr} {te : TE} {pos : Pos} (he : PE X e te) (hb : attributeBase e "value" X.env (eval e X.env) = eval e X.env := by rfl) : PE X (.Attribute e "value" pos) (tXv X.K te) := by
  constructor
  intro pins s σ H Q I h
  refine attr_of hb (thn (he.run pins s σ H _ I h) fun u s1 hh => ?_)
  obtain ⟨x, H1, I1, rx, a, C, dx, v, ex, ea, T, ed, q⟩ := hh
  subst ex
  obtain rfl : u = Value.ref a := rx
  obtain ⟨oe, vs, h1, h2, h3, h4⟩ := ext_at I1 ea
  have hx : ObjOk X.prog X.w H1 s1.heap dx (.xd [(("value" : Str), v)]) := I1.hok dx _ ed
  obtain ⟨mA, hns, hr⟩ := hx
  obtain ⟨od, ho, hl⟩ := lookIn_ns hns
  obtain ⟨u, hu, ru⟩ := RelO.some_of (v := v) (o := mA "value") (by
    have q := hr "value"
    simpa [List.lookup] using q)
  have J : PySem.W.InstAt s1.heap a oe C (some od) := ⟨h1, h2, by unfold PySem.W.notCls; rw [h4] <;> rfl, by rw [h3]; exact ho⟩
  exact HandSPX.exc_get I1.kIn J T.ga T.gg T.ox.exC (PySem.W.findObj_own T.hd T.nv rfl (by rw [hl, hu])) (handed_of ru) ⟨v, H1, I1.tok _, ru, q⟩
/-- isinstance(e, c), isinstance(e, (c, ..)) of an own error -/
def rIsX (K : PySem.W.Frag) : List V → Hp → VK → Prop := fun xs H Q => ∃ (a D dx : Addr) (c : V) (u : Value) (b : Bool), xs = [.ref a, c] ∧ H a = some (ExT a D dx) ∧ (∃ fs, H dx = some (.xd fs)) ∧ ExcK K D ∧ ClsG K ∧ ClsV c u ∧ PySem.W.kitOne K (.ref D) u = some b ∧ Q (.bl b) H
def rIsXT (K : PySem.W.Frag) : List V → Hp → VK → Prop := fun xs H Q => ∃ (a D dx tp : Addr) (cs : List V) (us : List Value) (b : Bool), xs = [.ref a, .ref tp] ∧ H a = some (ExT a D dx) ∧ (∃ fs, H dx = some (.xd fs)) ∧ ExcK K D ∧ ClsG K ∧ H tp = some (.tup cs) ∧ Paired ClsV cs us ∧ PySem.W.kitAny K (.ref D) us = some b ∧ Q (.bl b) H
theorem inst_ex {s : Shared} {pins : List (Addr × Obj)} {σ : L2.St} {D dx : Addr} (I : L2.Inv X pins σ H s) (h : H a = some (ExT a D dx)) (hd : ∃ fs, H dx = some (.xd fs)) : ∃ (oe od : Obj), PySem.W.InstAt s.heap a oe D (some od) := by
  obtain ⟨oe, vs, h1, h2, h3, h4⟩ := ext_at I h
  obtain ⟨fs, hd⟩ := hd
  have hx : ObjOk X.prog X.w H s.heap dx (.xd fs) := I.hok dx _ hd
  obtain ⟨mA, hns, hr⟩ := hx
  obtain ⟨od, ho, hl⟩ := lookIn_ns hns
  exact ⟨oe, od, h1, h2, by unfold PySem.W.notCls; rw [h4] <;> rfl, by rw [h3]; exact ho⟩
theorem call_isX : CallR X (.builtin "isinstance") (rIsX X.K) := by
  intro pins s σ H xs us Q I r h
  obtain ⟨a, D, dx, c, u, b, rfl, ha, hd, T, G, k, e, q⟩ := h
  obtain ⟨u1, u2, rfl, r1, r2⟩ := vals2 r
  have e2 := k.eq r2
  subst e2
  obtain rfl : u1 = Value.ref a := r1
  obtain ⟨oe, od, J⟩ := inst_ex I ha hd
  have hcl : (PySem.W.clsIn X.K D).isSome = true := by
    obtain ⟨cd, hc, _⟩ := PySem.W.any_some T.hd
    rw [hc]; rfl
  exact PySem.W.kia_one (PySem.W.kitx_exc hcl T.ga T.gg T.ox.exC T.ha G.hn G.ht T.hm) I.kIn J e (fun z => nomatch z) fun tk => ⟨.bl b, H, I.tok tk, rfl, q⟩
theorem call_isXT : CallR X (.builtin "isinstance") (rIsXT X.K) := by
  intro pins s σ H xs us Q I r h
  obtain ⟨a, D, dx, tp, cs, ws, b, rfl, ha, hd, T, G, hT, k, e, q⟩ := h
  obtain ⟨u1, u2, rfl, r1, r2⟩ := vals2 r
  obtain rfl : u1 = Value.ref a := r1
  obtain rfl : u2 = Value.ref tp := r2
  obtain ⟨oe, od, J⟩ := inst_ex I ha hd
  have hcl : (PySem.W.clsIn X.K D).isSome = true := by
    obtain ⟨cd, hc, _⟩ := PySem.W.any_some T.hd
    rw [hc]; rfl
  obtain ⟨_, its, rv, o, h1, h2, n, h3⟩ := (show ObjOk X.prog X.w H s.heap tp (.tup cs) from I.hok tp _ hT)
  have e3 := ClsV.all k rv
  subst e3
  obtain ⟨oc, od', dt, sl⟩ := o
  simp only at h2 h3
  subst h2 h3
  exact PySem.W.kia_tup (PySem.W.kitx_exc hcl T.ga T.gg T.ox.exC T.ha G.hn G.ht T.hm) I.kIn J h1 e (fun z => nomatch z) fun tk => ⟨.bl b, H, I.tok tk, rfl, q⟩
theorem call_or {f : Value} {r r' : List V → Hp → VK → Prop} (a : CallR X f r) (b : CallR X f r') : CallR X f (fun xs H Q => r xs H Q ∨ r' xs H Q) := fun pins s σ H xs us Q I rx h => by
  rcases h with h | h
  · exact a pins s σ H xs us Q I rx h
  · exact b pins s σ H xs us Q I rx h
/-- isinstance -/
abbrev rIsU (K : PySem.W.Frag) : List V → Hp → VK → Prop := fun xs H Q => (rIsi K xs H Q ∨ rIsiT K xs H Q) ∨ (rIsX K xs H Q ∨ rIsXT K xs H Q)
theorem call_isU : CallR X (.builtin "isinstance") (rIsU X.K) := call_or (call_or call_isi call_isiT) (call_or call_isX call_isXT)
end
/-! ### over data -/
/-- the type of plain data -/
def tyD : D → Option String
  | .non => some "NoneType" | .bl _ => some "bool" | .int _ => some "int" | .str _ => some "str"
  | .tup _ => some "tuple" | .lst _ => some "list" | .frz _ => some "list" | .dct _ _ => some "dict"
  | _ => none
/-- the type of data, what may change with it -/
def tyM (μ : Mu) : D → Option String
  | .at a => match μ a with
    | some (.lst _) => some "list"
    | some (.dct _ _) => some "dict"
    | _ => none
  | d => tyD d
section
variable {K : PySem.W.Frag} {W : WX} {X : XD} {μ μ' : Mu} {H H' : Hp} {ρ : Ro} {E : ED} {ta tb te tx tl : TE} {Φ : DP} {x y : D}
theorem den_ty {T : String} {v : V} (m : Mem K μ H) (h : Den K μ H x v) (ht : tyM μ x = some T) : TyX K H v (.type T) := by
  cases x <;> unfold Den at h <;> unfold tyM at ht <;> try unfold tyD at ht
  case non => cases ht; subst h; exact .base .non
  case bl => cases ht; subst h; exact .base (.bl _)
  case int => cases ht; subst h; exact .base (.int _)
  case str => cases ht; subst h; exact .base (.str _)
  case tup =>
    cases ht
    obtain ⟨p, vs, e, s, _⟩ := h
    subst e
    rcases s with ⟨_, s | ⟨o, s⟩⟩ | ⟨o, its, n, h1, h2, _⟩
    · exact .base (.tup s)
    · exact .fTuple s
    · exact .kTuple h1 h2
  case lst =>
    cases ht
    obtain ⟨p, vs, e, s, _⟩ := h
    subst e
    exact .base (.lst s.2)
  case frz =>
    cases ht
    obtain ⟨p, vs, e, s, _⟩ := h
    subst e
    rcases s with ⟨_, s | ⟨o, s⟩⟩ | ⟨o, its, n, h1, h2, _⟩
    · exact .base (.lst s)
    · exact .base (.frz s)
    · exact .kList h1 h2
  case dct =>
    cases ht
    obtain ⟨p, vs, e, s, _⟩ := h
    subst e
    exact .base (.dK s.2)
  case «at» a =>
    subst h
    dsimp only at ht
    cases q : μ a with
    | none => rw [q] at ht; cases ht
    | some o =>
      rw [q] at ht
      have hm := m a o q
      cases o with
      | lst ds => cases ht; obtain ⟨vs, e, _⟩ := hm; exact .base (.lst e)
      | dct ks ds => cases ht; obtain ⟨vs, e, _⟩ := hm; exact .base (.dK e)
      | obj C fs ds => cases ht
  all_goals (cases ht)
/-- isinstance of plain data, a built-in class -/
theorem cax_is {T c : String} {b : Bool} (ht : tyM μ x = some T) (hk : kitB T c = some b) (h : Φ μ (.bl b)) : CaX K (rIsU K) μ [x, .ty c] Φ := fun H vs Q m d k => by
  obtain ⟨v, v', e, a, a'⟩ := denL2 d
  unfold Den at a'
  subst a'
  exact .inl (.inl ⟨v, .ty c, .type T, .type c, b, e, .ty c, den_ty m a ht, kit_ty hk, k μ _ _ H h (Grow.refl _ _) m (by unfold Den; rfl)⟩)
/-- .. of one of some built-in classes -/
def kitBs (T : String) : List String → Option Bool
  | [] => some false
  | c :: cs => match kitB T c with
    | some true => some true
    | some false => kitBs T cs
    | none => none
theorem kitBs_ok {T : String} : ∀ {cs : List String} {b : Bool}, kitBs T cs = some b → PySem.W.kitAny K (.type T) (cs.map Value.type) = some b
  | [], b, h => h
  | c :: cs, b, h => by
    unfold kitBs at h
    show (match PySem.W.kitOne K (.type T) (.type c) with | some true => some true | some false => PySem.W.kitAny K (.type T) (cs.map Value.type) | none => none) = some b
    cases q : kitB T c with
    | none => rw [q] at h; cases h
    | some r =>
      rw [q] at h
      rw [kit_ty q]
      cases r with
      | true => exact h
      | false => exact kitBs_ok h
theorem denL_tys : ∀ {cs : List String} {vs : List V}, DenL K μ H (cs.map D.ty) vs → Paired ClsV vs (cs.map Value.type)
  | [], vs, h => by
    have h' : DenL K μ H [] vs := h
    unfold DenL at h'; subst h'; exact .nil
  | c :: cs, vs, h => by
    have h' : DenL K μ H (.ty c :: cs.map D.ty) vs := h
    unfold DenL at h'
    obtain ⟨w, ws, e, a, b⟩ := h'
    unfold Den at a
    subst e a
    exact .cons (.ty c) (denL_tys b)
theorem stT_own {p : Addr} {vs : List V} {o : Obj} (h : StT K μ H p vs) (hu : H p = some (.tup vs)) : True := True.intro
theorem cax_isT {T : String} {cs : List String} {b : Bool} (ht : tyM μ x = some T) (hk : kitBs T cs = some b) (h : Φ μ (.bl b)) {vs : List V} {Q : VK} {p : Addr} {us : List V} (m : Mem K μ H) {v : V} (hv : Den K μ H x v) (hp : H p = some (.tup us)) (hu : DenL K μ H (cs.map D.ty) us)
    (k : ∀ μ' d u H', Φ μ' d → Grow μ H μ' H' → Mem K μ' H' → Den K μ' H' d u → Q u H') : rIsU K [v, .ref p] H Q :=
  .inl (.inr ⟨v, p, us, .type T, cs.map Value.type, b, rfl, hp, denL_tys hu, den_ty m hv ht, kitBs_ok hk, k μ _ _ H h (Grow.refl _ _) m (by unfold Den; rfl)⟩)
/-- isinstance(e, (A, B, ..)), the tuple written -/
theorem evx_isT {tr : TA} {cs : List String} (hr : ∀ (μ1 : Mu) (Ψ : Mu → List D → Prop), Ψ μ1 (cs.map D.ty) → EvL K W X μ1 ρ tr Ψ) (hc : cs.length ≤ 1000) (h : EvX K W X μ ρ te fun μ1 d => ∃ T b, tyM μ1 d = some T ∧ kitBs T cs = some b ∧ Φ μ1 (.bl b)) :
    EvX K W X μ ρ (tCB (rIsU K) (tCons te (tCons (tTup tr) tNil))) Φ := fun σ H Q m e l k =>
  h σ H _ m e l fun μ1 d v H1 ⟨T, b, ht, hk, hp⟩ g1 m1 d1 => hr μ1 (fun μ2 ds => μ2 = μ1 ∧ ds = cs.map D.ty) ⟨rfl, rfl⟩ σ H1 _ m1 (e.grow g1) (l.grow g1) fun μ2 ds us H2 ⟨e1, e2⟩ g2 m2 d2 => by
    subst e1 e2
    refine ⟨by rw [← d2.length, List.length_map]; exact Nat.le_trans hc (by decide), fun p hp2 => ?_⟩
    have gn : Grow μ2 H2 μ2 (upd H2 p (.tup us)) := Grow.new hp2
    exact cax_isT ht hk hp (vs := []) (m2.new hp2) (Den.grow gn _ _ (Den.grow g2 _ _ d1)) upd_same (DenL.grow gn _ _ d2) fun μ' d' u H' p' g' => k μ' d' u H' p' (((g1.trans g2).trans gn).trans g')
/-! ### own errors -/
theorem evx_xv (h : EvX K W X μ ρ te fun μ1 x => ∃ C d, x = .exc C d ∧ ExcK K C ∧ Φ μ1 d) : EvX K W X μ ρ (tXv K te) Φ := fun σ H Q m e l k =>
  h σ H _ m e l fun μ1 x v H1 ⟨C, d, e1, T, hp⟩ g1 m1 d1 => by
    subst e1
    unfold Den at d1
    obtain ⟨p, dx, w, e2, s, t, b⟩ := d1
    exact ⟨p, C, dx, w, e2, s.2, T, t.2, k μ1 d w H1 hp g1 m1 b⟩
theorem cax_isX {C c : Addr} {d : D} {b : Bool} (T : ExcK K C) (G : ClsG K) (hk : PySem.W.kitOne K (.ref C) (.ref c) = some b) (h : Φ μ (.bl b)) : CaX K (rIsU K) μ [.exc C d, .at c] Φ := fun H vs Q m dd k => by
  obtain ⟨v, v', e, a, a'⟩ := denL2 dd
  unfold Den at a a'
  obtain ⟨p, dx, w, e2, s, t, _⟩ := a
  subst a' e2
  exact .inr (.inl ⟨p, C, dx, .ref c, .ref c, b, e, s.2, ⟨_, t.2⟩, T, G, .own c, hk, k μ _ _ H h (Grow.refl _ _) m (by unfold Den; rfl)⟩)
theorem cax_isXB {C : Addr} {c : String} {d : D} {b : Bool} (T : ExcK K C) (G : ClsG K) (hk : PySem.W.kitOne K (.ref C) (.type c) = some b) (h : Φ μ (.bl b)) : CaX K (rIsU K) μ [.exc C d, .ty c] Φ := fun H vs Q m dd k => by
  obtain ⟨v, v', e, a, a'⟩ := denL2 dd
  unfold Den at a a'
  obtain ⟨p, dx, w, e2, s, t, _⟩ := a
  subst a' e2
  exact .inr (.inl ⟨p, C, dx, .ty c, .type c, b, e, s.2, ⟨_, t.2⟩, T, G, .ty c, hk, k μ _ _ H h (Grow.refl _ _) m (by unfold Den; rfl)⟩)
theorem denL_ats : ∀ {cs : List Addr} {vs : List V}, DenL K μ H (cs.map D.at) vs → Paired ClsV vs (cs.map Value.ref)
  | [], vs, h => by
    have h' : DenL K μ H [] vs := h
    unfold DenL at h'; subst h'; exact .nil
  | c :: cs, vs, h => by
    have h' : DenL K μ H (.at c :: cs.map D.at) vs := h
    unfold DenL at h'
    obtain ⟨w, ws, e, a, b⟩ := h'
    unfold Den at a
    subst e a
    exact .cons (.own c) (denL_ats b)
theorem evx_isXT {tr : TA} {cs : List Addr} (G : ClsG K) (hr : ∀ (μ1 : Mu) (Ψ : Mu → List D → Prop), Ψ μ1 (cs.map D.at) → EvL K W X μ1 ρ tr Ψ) (hc : cs.length ≤ 1000) (h : EvX K W X μ ρ te fun μ1 x => ∃ C d b, x = .exc C d ∧ ExcK K C ∧ PySem.W.kitAny K (.ref C) (cs.map Value.ref) = some b ∧ Φ μ1 (.bl b)) :
    EvX K W X μ ρ (tCB (rIsU K) (tCons te (tCons (tTup tr) tNil))) Φ := fun σ H Q m e l k =>
  h σ H _ m e l fun μ1 x v H1 ⟨C, d, b, e0, T, hk, hp⟩ g1 m1 d1 => hr μ1 (fun μ2 ds => μ2 = μ1 ∧ ds = cs.map D.at) ⟨rfl, rfl⟩ σ H1 _ m1 (e.grow g1) (l.grow g1) fun μ2 ds us H2 ⟨e1, e2⟩ g2 m2 d2 => by
    subst e0 e1 e2
    refine ⟨by rw [← d2.length, List.length_map]; exact Nat.le_trans hc (by decide), fun p hp2 => ?_⟩
    have gn : Grow μ2 H2 μ2 (upd H2 p (.tup us)) := Grow.new hp2
    have dd := Den.grow gn _ _ (Den.grow g2 _ _ d1)
    unfold Den at dd
    obtain ⟨q, dx, w, e3, s, t, _⟩ := dd
    subst e3
    exact .inr (.inr ⟨q, C, dx, p, us, _, b, rfl, s.2, ⟨_, t.2⟩, T, G, upd_same, denL_ats (DenL.grow gn _ _ d2), hk, k μ2 _ _ _ hp ((g1.trans g2).trans gn) (m2.new hp2) (by unfold Den; rfl)⟩)
/-- try: body, except c as n: m = n -/
theorem gs_try {tb : WX → TS} {c : Value} {i j : Nat} (hij : i ≠ j)
    (h : ∀ W', GS K W' (fun μ' ρ' C d => PySem.W.exmOne K (.ref C) c = some true ∧ i < ρ'.length ∧ E.nx μ' ((ρ'.set j (some (.exc C d))).set i none)) μ ρ (tb W') E) :
    GS K W X μ ρ (tTry K c i (fun _ => tAsg (tVar i) (gName j)) tb) E := fun σ H Dd m e l k => by
  refine h _ σ H Dd m e ?_ k
  rintro μ' ρ' C d dx v σ' H' ⟨hm, hi, hx⟩ gr mm ee hdx hd dd
  refine ⟨C, dx, rfl, rfl, hm, fun a ha => ?_⟩
  have hl : i < σ'.length := by rw [ee.1]; exact hi
  refine ⟨.ref a, List.getElem?_set_self hl, fun ha' => ?_⟩
  have gn : Grow μ' H' μ' (upd H' a (ExT a C dx)) := Grow.new ha
  have ne : dx ≠ a := ne_of_none hd ha
  refine k.nx _ _ _ _ hx (gr.trans gn) (mm.new ha) ?_
  have e1 : ((σ'.set i (some (.ref a))).set j (some (.ref a))).set i none = (σ'.set j (some (.ref a))).set i none := by
    rw [List.set_comm _ _ hij, List.set_set]
  rw [e1]
  refine ((ee.grow gn).set ?_ j).unset i
  unfold Den
  exact ⟨a, dx, v, rfl, ⟨mm.free ha, upd_same⟩, ⟨hdx, by rw [upd_ne ne]; exact hd⟩, Den.grow gn _ _ dd⟩
theorem kit_self {a : Addr} : PySem.W.kitOne K (.ref a) (.ref a) = some true := by
  unfold PySem.W.kitOne
  rw [if_pos (by simp)]
end
section
variable {X : Cx} {CX : CXT} {k : Nat} {f C : Addr} {fd : FuncData} {ps ks : List Str} {sp : Sp} {E : XK} {x m : Str} {p pos apos kpos : Pos} {kws : List Keyword} {tk : TA} {g : List Value → List Value → List Value} {gV : List V → List V → List V}
/-- f(k = v, ..), no place given -/
theorem pe_callK0 (F : FnOk X.prog X.w X.K X.mg X.base CX k f fd ps sp) (hr : Room k X.A) (hg : Gl X x) (hm : X.mg x = some (.ref f)) (hk : PySem.W.keepIn X.K (.ref f) = true) (hb : KBinds X.K fd ps ks g gV) (hx : Passes CX X E)
    (hkw : PK X kws tk) (hall : (backToKw pos (keywordEach kws X.env)).all (·.1.isSome) = true := by rfl) (hks : (backToKw pos (keywordEach kws X.env)).filterMap (·.1) = ks := by rfl)
    (hdb : (x == ("__debug__" : Str)) = false := by decide) (hn : ((backTo pos (starEach [] X.env)).any (·.1) || (backToKw pos (keywordEach kws X.env)).any (·.1.isNone)) = false := by rfl) :
    PE X (.Call (.Name x p) [] kws pos) (tCallK sp gV E tNil tk) := by
  constructor
  intro pins s σ H Q I h
  apply wpAny_Call_Name_kw (ld_glob I hg hm ?_ hdb)
  refine PySem.W.callWith_KW0 (h₀ := X.base) I.ok.mod.kin hk hall ?_ hn
  refine thn (hkw.run pos pins s σ H _ I h) fun ws s2 hh => ?_
  obtain ⟨zs, H2, I2, rz, q2⟩ := hh
  refine ⟨I2.kIn, ?_⟩
  rw [hks]
  exact run_fnk F hr hb hx I2 .nil rz q2
end
/-- the data in the parameters' order: the places of n given ones and m named ones -/
def permG {α : Type} (n m : Nat) (pm : List Nat) (us ws : List α) : List α := if us.length = n ∧ ws.length = m then pm.filterMap fun i => (us ++ ws)[i]? else []
theorem perm_vals : ∀ {pm : List Nat} {vs : List V} {us : List Value}, Vals vs us → Vals (pm.filterMap fun i => vs[i]?) (pm.filterMap fun i => us[i]?)
  | [], _, _, _ => .nil
  | i :: pm, vs, us, h => by
    rw [List.filterMap_cons, List.filterMap_cons]
    cases e : vs[i]? with
    | none =>
      rw [h.none_of e]
      exact perm_vals h
    | some v =>
      obtain ⟨u, h1, h2⟩ := h.get e
      rw [h1]
      exact .cons h2 (perm_vals h)
theorem perm_den {K : PySem.W.Frag} {μ : Mu} {H : Hp} : ∀ {pm : List Nat} {ds : List D} {vs : List V}, DenL K μ H ds vs → DenL K μ H (pm.filterMap fun i => ds[i]?) (pm.filterMap fun i => vs[i]?)
  | [], _, _, _ => DenL.nil
  | i :: pm, ds, vs, h => by
    rw [List.filterMap_cons, List.filterMap_cons]
    cases e : ds[i]? with
    | none =>
      have : vs[i]? = none := by
        rw [List.getElem?_eq_none_iff] at e ⊢
        rw [← h.length]; exact e
      rw [this]
      exact perm_den h
    | some d =>
      obtain ⟨v, h1, h2⟩ := h.get e
      rw [h1]
      exact DenL.cons h2 (perm_den h)
/-- a def of the module that keeps its promise, with all that a call of it asks -/
structure Cal (P : Program) (w : World) (K : PySem.W.Frag) (mg : Str → Option Value) (base : Heap) (CX : CXT) (k : Nat) (x : Str) (st : Stmt) (ps : List Str) (sp : Sp) : Prop where
  ex : ∃ (f : Addr) (fd : FuncData), mg x = some (.ref f) ∧ Fun K x x st f fd ∧ FnOk P w K mg base CX k f fd ps sp ∧ Binds K fd ps []
def Std (K : PySem.W.Frag) (mg : Str → Option Value) (x : Str) (st : Stmt) : Prop := ∃ (f : Addr) (fd : FuncData), mg x = some (.ref f) ∧ Fun K x x st f fd
section
variable {P : Program} {w : World} {K : PySem.W.Frag} {mg : Str → Option Value} {base : Heap} {x : Str} {st : Stmt} {N ps : List Str} {k : Nat}
theorem cal0 {Pd : PD} (h : Std K mg x st) (S : FnScope N ps (defScope st))
    (hbi : ∀ (kV doc pm : Value) (an : Option Addr) (cdv ct : Value) (us : List Value), us.length = ps.length → bindArgs (PySem.W.fnOf x x (defArgs st) (defBody st) (defScope st) .none kV doc pm an cdv ct) ⟨us, []⟩ = pure (ps.zip us))
    (hb : ∀ (f : Addr) (cdv : Value) (A : Around) (outer : List Env) (s : Shared) (H : Hp) (E : XK), Room k (A.deeper (envOfC x (defScope st) s.heap.objs.size f cdv)) →
      ∃ t, PSs (cxOf CX0 P w K mg base N x (defScope st) f cdv A outer s H E).nox (defBody st) t ∧ ∀ μ ds post exc, ds.length = ps.length → Pd μ ds post exc → GS K WN XN μ (startD N ds) t { nx := fun m _ => post m .non, rt := post }) :
    Cal P w K mg base CX0 (k + 1) x st ps (spD K ps.length Pd) := by
  obtain ⟨f, fd, h1, F⟩ := h
  exact ⟨f, fd, h1, F, def_ok F S (hb f), F.binds hbi⟩
theorem calX {Pd : PD} (h : Std K mg x st) (S : FnScope N ps (defScope st))
    (hbi : ∀ (kV doc pm : Value) (an : Option Addr) (cdv ct : Value) (us : List Value), us.length = ps.length → bindArgs (PySem.W.fnOf x x (defArgs st) (defBody st) (defScope st) .none kV doc pm an cdv ct) ⟨us, []⟩ = pure (ps.zip us))
    (hb : ∀ (f : Addr) (cdv : Value) (A : Around) (outer : List Env) (s : Shared) (H : Hp) (E : XK), Room k (A.deeper (envOfC x (defScope st) s.heap.objs.size f cdv)) →
      ∃ t, PSs (cxOf (L2.CX P w) P w K mg base N x (defScope st) f cdv A outer s H E) (defBody st) t ∧ ∀ μ ds post exc, ds.length = ps.length → Pd μ ds post exc → GS K (fun cls d _ H => E cls d H) (fun m _ C d => exc m C d) μ (startD N ds) t { nx := fun m _ => post m .non, rt := post }) :
    Cal P w K mg base (L2.CX P w) (k + 1) x st ps (spD K ps.length Pd) := by
  obtain ⟨f, fd, h1, F⟩ := h
  exact ⟨f, fd, h1, F, def_okX F S (hb f), F.binds hbi⟩
theorem Cal.imp {CX : CXT} {n : Nat} {P1 P2 : PD} (c : Cal P w K mg base CX k x st ps (spD K n P1)) (h : ∀ μ ds post exc, P2 μ ds post exc → P1 μ ds post exc) : Cal P w K mg base CX k x st ps (spD K n P2) := by
  obtain ⟨f, fd, h1, F, G, b⟩ := c.ex
  exact ⟨f, fd, h1, F, fn_imp G h, b⟩
theorem Cal.mono {CX : CXT} {sp : Sp} {j : Nat} (c : Cal P w K mg base CX k x st ps sp) (h : k ≤ j) : Cal P w K mg base CX j x st ps sp := by
  obtain ⟨f, fd, h1, F, G, b⟩ := c.ex
  exact ⟨f, fd, h1, F, G.mono h, b⟩
theorem kb_of {f : Addr} {fd : FuncData} {n m : Nat} {pm : List Nat} {ks : List Str} (F : Fun K x x st f fd) (hp : ps ≠ [])
    (h : ∀ (kV doc pv : Value) (an : Option Addr) (cdv ct : Value) (us ws : List Value), us.length = n → ws.length = m → bindArgs (PySem.W.fnOf x x (defArgs st) (defBody st) (defScope st) .none kV doc pv an cdv ct) ⟨us, ks.zip ws⟩ = pure (ps.zip (pm.filterMap fun i => (us ++ ws)[i]?))) :
    KBinds K fd ps ks (permG n m pm) (permG n m pm) := by
  obtain ⟨oc, od, kV, doc, pv, an, cdv, ct, osl, rfl, lk, hcd⟩ := F.ex
  refine ⟨fun s us ws _ hl => ?_, fun {vs us zs ws} r rz => ?_⟩
  · unfold permG at hl ⊢
    by_cases c : us.length = n ∧ ws.length = m
    · rw [if_pos c] at hl ⊢
      exact .of_eq (h kV doc pv an cdv ct us ws c.1 c.2)
    · rw [if_neg c] at hl
      exact absurd (List.length_eq_zero_iff.mp hl.symm) hp
  · unfold permG
    rw [r.length, rz.length]
    by_cases c : us.length = n ∧ ws.length = m
    · rw [if_pos c, if_pos c]
      exact perm_vals (r.append rz)
    · rw [if_neg c, if_neg c]
      exact .nil
theorem permG_den {μ : Mu} {H : Hp} {n m : Nat} {pm : List Nat} {ds es : List D} {vs ws : List V} (a : DenL K μ H ds vs) (b : DenL K μ H es ws) : DenL K μ H (permG n m pm ds es) (permG n m pm vs ws) := by
  unfold permG
  rw [a.length, b.length]
  by_cases c : vs.length = n ∧ ws.length = m
  · rw [if_pos c, if_pos c]
    exact perm_den (a.append b)
  · rw [if_neg c, if_neg c]
    exact DenL.nil
end
section
variable {X : Cx} {k j : Nat} {st : Stmt} {ps ks : List Str} {sp : Sp} {x : Str} {p pos : Pos} {e : Expr} {es : List Expr} {t tk : TA} {kws : List Keyword} {n m : Nat} {pm : List Nat}
/-- a call of such a def; no error leaves it -/
theorem pe_c (c : Cal X.prog X.w X.K X.mg X.base CX0 k x st ps sp) (hr : Room j X.A) (hj : k ≤ j) (ha : PA X (e :: es) t) (hg : Gl X x := by rfl) (hdb : (x == ("__debug__" : Str)) = false := by decide)
    (he : starEach (e :: es) X.env = (false, eval e X.env) :: starEach es X.env := by rfl) (hpl : (backTo pos (starEach es X.env)).any (·.1) = false := by rfl) : PE X (.Call (.Name x p) (e :: es) [] pos) (tCall sp [] E0 t) := by
  obtain ⟨f, fd, h1, F, G, b⟩ := c.ex
  exact pe_call G (hr.mono hj) hg h1 F.kp b .nil pass0 ha hdb he hpl
theorem pe_c0 (c : Cal X.prog X.w X.K X.mg X.base CX0 k x st ps sp) (hr : Room j X.A) (hj : k ≤ j) (hg : Gl X x := by rfl) (hdb : (x == ("__debug__" : Str)) = false := by decide) : PE X (.Call (.Name x p) [] [] pos) (tCall sp [] E0 tNil) := by
  obtain ⟨f, fd, h1, F, G, b⟩ := c.ex
  have h := pe_call0 (p := p) (pos := pos) G (hr.mono hj) hg h1 F.kp b .nil (pass0 (X := X)) hdb
  exact ⟨fun pins s σ H Q I q => h.run pins s σ H Q I q⟩
theorem pe_cS {W : WX} (c : Cal X.prog X.w X.K X.mg X.base (L2.CX X.prog X.w) k x st ps sp) (hr : Room j X.A) (hj : k ≤ j) (tk : Takes X W) (ha : PA X (e :: es) t) (hg : Gl X x := by rfl) (hdb : (x == ("__debug__" : Str)) = false := by decide)
    (he : starEach (e :: es) X.env = (false, eval e X.env) :: starEach es X.env := by rfl) (hpl : (backTo pos (starEach es X.env)).any (·.1) = false := by rfl) : PE X (.Call (.Name x p) (e :: es) [] pos) (tCallS sp (WE W) t) := by
  obtain ⟨f, fd, h1, F, G, b⟩ := c.ex
  exact pe_callS G (hr.mono hj) hg h1 F.kp b (fun σ => passAt tk σ) ha hdb he hpl
theorem pe_ck (c : Cal X.prog X.w X.K X.mg X.base CX0 k x st ps sp) (hr : Room j X.A) (hj : k ≤ j) (hp : ps ≠ [])
    (h : ∀ (kV doc pv : Value) (an : Option Addr) (cdv ct : Value) (us ws : List Value), us.length = n → ws.length = m → bindArgs (PySem.W.fnOf x x (defArgs st) (defBody st) (defScope st) .none kV doc pv an cdv ct) ⟨us, ks.zip ws⟩ = pure (ps.zip (pm.filterMap fun i => (us ++ ws)[i]?)))
    (hkw : PK X kws tk) (hg : Gl X x := by rfl) (hall : (backToKw pos (keywordEach kws X.env)).all (·.1.isSome) = true := by rfl) (hks : (backToKw pos (keywordEach kws X.env)).filterMap (·.1) = ks := by rfl)
    (hdb : (x == ("__debug__" : Str)) = false := by decide) (hn : ((backTo pos (starEach [] X.env)).any (·.1) || (backToKw pos (keywordEach kws X.env)).any (·.1.isNone)) = false := by rfl) :
    PE X (.Call (.Name x p) [] kws pos) (tCallK sp (permG n m pm) E0 tNil tk) := by
  obtain ⟨f, fd, h1, F, G, b⟩ := c.ex
  exact pe_callK0 G (hr.mono hj) hg h1 F.kp (kb_of F hp h) pass0 hkw hall hks hdb hn
end
section
variable {K : PySem.W.Frag} {W : WX} {X : XD} {μ : Mu} {ρ : Ro} {Φ : DP} {n a b : Nat} {pm : List Nat} {P : PD} {tr tk : TA}
theorem evx_ck (h : EvL K W X μ ρ tr fun μ1 ds => EvL K W X μ1 ρ tk fun μ2 es => (permG a b pm ds es).length = n ∧ P μ2 (permG a b pm ds es) Φ excN) : EvX K W X μ ρ (tCallK (spD K n P) (permG a b pm) E0 tr tk) Φ :=
  evx_callK (permG a b pm) (fun _ _ _ _ _ _ p q => permG_den p q) h
end
/-! ### == of data -/
mutual
def toP : D → PyData
  | .bl b => .bool b
  | .int i => .int i
  | .str x => .str x
  | .tup ds => .tuple (toPs ds)
  | .lst ds => .list (toPs ds)
  | .frz ds => .list (toPs ds)
  | _ => .none
def toPs : List D → List PyData
  | [] => []
  | d :: ds => toP d :: toPs ds
end
mutual
def plainD : D → Bool
  | .non => true
  | .bl _ => true
  | .int _ => true
  | .str x => SeqAt.shaped (.str x)
  | .tup ds => plainDs ds
  | .lst ds => plainDs ds
  | .frz ds => plainDs ds
  | _ => false
def plainDs : List D → Bool
  | [] => true
  | d :: ds => plainD d && plainDs ds
end
def seeD (μ : Mu) : D → D
  | .at a => match μ a with
    | some (.lst ds) => .lst ds
    | _ => .at a
  | d => d
section
variable {K : PySem.W.Frag} {W : WX} {X : XD} {μ μ' : Mu} {H H' : Hp} {ρ : Ro} {E : ED} {ta tb te tx tl : TE} {Φ : DP} {x y : D}
mutual
theorem den_dp : ∀ (d : D) (v : V), Den K μ H d v → plainD d = true → Dp K H v (toP d)
  | .non, v, h, _ => by unfold Den at h; subst h; exact .non
  | .bl b, v, h, _ => by unfold Den at h; subst h; exact .bl b
  | .int i, v, h, _ => by unfold Den at h; subst h; exact .int i
  | .str x, v, h, _ => by unfold Den at h; subst h; exact .str x
  | .tup ds, v, h, p => by
    unfold Den at h
    unfold plainD at p
    obtain ⟨q, vs, e, s, b⟩ := h
    subst e
    exact .tup s.sq (den_dps ds vs b p)
  | .lst ds, v, h, p => by
    unfold Den at h
    unfold plainD at p
    obtain ⟨q, vs, e, s, b⟩ := h
    subst e
    exact .lst (SqL.of s.2) (den_dps ds vs b p)
  | .frz ds, v, h, p => by
    unfold Den at h
    unfold plainD at p
    obtain ⟨q, vs, e, s, b⟩ := h
    subst e
    exact .lst s.sq (den_dps ds vs b p)
  | .dct _ _, v, h, p => by unfold plainD at p; cases p
  | .obj _ _ _, v, h, p => by unfold plainD at p; cases p
  | .exc _ _, v, h, p => by unfold plainD at p; cases p
  | .ty _, v, h, p => by unfold plainD at p; cases p
  | .at _, v, h, p => by unfold plainD at p; cases p
theorem den_dps : ∀ (ds : List D) (vs : List V), DenL K μ H ds vs → plainDs ds = true → DpAll K H vs (toPs ds)
  | [], vs, h, _ => by unfold DenL at h; subst h; exact .nil
  | d :: ds, vs, h, p => by
    unfold DenL at h
    unfold plainDs at p
    rw [Bool.and_eq_true] at p
    obtain ⟨w, ws, e, a, b⟩ := h
    subst e
    exact .cons (den_dp d w a p.1) (den_dps ds ws b p.2)
end
theorem den_see {v : V} (m : Mem K μ H) (h : Den K μ H x v) (p : plainD (seeD μ x) = true) : Dp K H v (toP (seeD μ x)) := by
  cases x
  case «at» a =>
    unfold seeD at p ⊢
    dsimp only at p ⊢
    cases q : μ a with
    | none => rw [q] at p; cases p
    | some o =>
      rw [q] at p
      cases o with
      | lst ds =>
        unfold Den at h
        subst h
        obtain ⟨vs, e, b⟩ := m a _ q
        have p' : plainDs ds = true := p
        exact .lst (SqL.of e) (den_dps ds vs b p')
      | dct _ _ => cases p
      | obj _ _ _ => cases p
  all_goals exact den_dp _ v h p
/-- == over data -/
def eqD (x y : D) : Bool := PyData.eqv (toP x) (toP y)
theorem opx_eqD (h1 : plainD (seeD μ x) = true) (s1 : SeqAt.shaped (toP (seeD μ x)) = true) (h2 : plainD (seeD μ y) = true) (s2 : SeqAt.shaped (toP (seeD μ y)) = true) (h : Φ μ (.bl (eqD (seeD μ x) (seeD μ y)))) : OpX K (rEqD K) μ x y Φ := fun H v w Q m a b k =>
  ⟨_, _, den_see m a h1, den_see m b h2, s1, s2, k μ _ _ H h (Grow.refl _ _) m (by unfold Den; rfl)⟩
theorem opx_neD (h1 : plainD (seeD μ x) = true) (s1 : SeqAt.shaped (toP (seeD μ x)) = true) (h2 : plainD (seeD μ y) = true) (s2 : SeqAt.shaped (toP (seeD μ y)) = true) (h : Φ μ (.bl (!eqD (seeD μ x) (seeD μ y)))) : OpX K (rNeD K) μ x y Φ := fun H v w Q m a b k =>
  ⟨_, _, den_see m a h1, den_see m b h2, s1, s2, k μ _ _ H h (Grow.refl _ _) m (by unfold Den; rfl)⟩
theorem ints_plain (gs : List Int) : plainDs (gs.map D.int) = true := by
  induction gs with
  | nil => rfl
  | cons g gs ih => unfold List.map plainDs; rw [ih]; rfl
theorem ints_shaped (gs : List Int) : SeqAt.shaped (toP (.lst (gs.map D.int))) = true := by
  have h1 : ∀ l : List Int, PyData.canLayAll0 (toPs (l.map D.int)) = true := by
    intro l
    induction l with
    | nil => rfl
    | cons g gs ih =>
      show (PyData.canLay0 (.int g) && PyData.canLayAll0 (toPs (gs.map D.int))) = true
      rw [ih]; rfl
  have h2 : ∀ l : List Int, PyData.depthAll (toPs (l.map D.int)) ≤ 1 := by
    intro l
    induction l with
    | nil => exact Nat.zero_le _
    | cons g gs ih =>
      show max (PyData.depth (.int g)) (PyData.depthAll (toPs (gs.map D.int))) ≤ 1
      exact Nat.max_le.mpr ⟨by show 0 ≤ 1; decide, ih⟩
  unfold SeqAt.shaped
  rw [Bool.and_eq_true]
  refine ⟨?_, ?_⟩
  · show PyData.canLayAll0 (toPs (gs.map D.int)) = true
    exact h1 gs
  · apply decide_eq_true
    show PyData.depthAll (toPs (gs.map D.int)) + 1 ≤ 64
    have := h2 gs
    omega
/-- xs != [] of ints -/
theorem eqD_nil (gs : List Int) : eqD (.lst (gs.map D.int)) (.lst []) = gs.isEmpty := by
  cases gs with
  | nil => rfl
  | cons g gs => rfl
/-! ### more methods of lists -/
/-- o.m(e, ..) of a list that may change -/
theorem evx_bmL {to : TE} {tr : TA} {r : V → List V → Hp → VK → Prop} (h : EvX K W X μ ρ to fun μ1 o => ∃ a ds0, o = .at a ∧ μ1 a = some (.lst ds0) ∧ EvL K W X μ1 ρ tr fun μ2 es => ∃ ds, μ2 a = some (.lst ds) ∧
      ∀ H vs ws Q, Mem K μ2 H → H a = some (.lst vs) → DenL K μ2 H ds vs → DenL K μ2 H es ws → (∀ μ' d u H', Φ μ' d → Grow μ2 H μ' H' → Mem K μ' H' → Den K μ' H' d u → Q u H') → r (.ref a) ws H Q) : EvX K W X μ ρ (tBM K "list" r to tr) Φ := fun σ H Q m e l k =>
  h σ H _ m e l fun μ1 o v H1 ⟨a, ds0, e1, h0, h1⟩ g1 m1 d1 => by
    subst e1
    unfold Den at d1
    subst d1
    obtain ⟨us0, q0, b0⟩ := m1 a _ h0
    refine ⟨.inl ⟨rfl, us0, SqL.of q0⟩, ?_⟩
    refine h1 σ H1 _ m1 (e.grow g1) (l.grow g1) fun μ2 es ws H2 ⟨ds, hp, hk⟩ g2 m2 d2 => ?_
    obtain ⟨us, q, b⟩ := m2 a _ hp
    exact hk H2 us ws Q m2 q b d2 fun μ' d u H' p g => k μ' d u H' p ((g1.trans g2).trans g)
theorem evx_bmL0 {to : TE} {r : V → List V → Hp → VK → Prop} (h : EvX K W X μ ρ to fun μ1 o => ∃ a ds, o = .at a ∧ μ1 a = some (.lst ds) ∧
      ∀ H vs Q, Mem K μ1 H → H a = some (.lst vs) → DenL K μ1 H ds vs → (∀ μ' d u H', Φ μ' d → Grow μ1 H μ' H' → Mem K μ' H' → Den K μ' H' d u → Q u H') → r (.ref a) [] H Q) : EvX K W X μ ρ (tBM0 K "list" r to) Φ := fun σ H Q m e l k =>
  h σ H _ m e l fun μ1 o v H1 ⟨a, ds, e1, hp, hk⟩ g1 m1 d1 => by
    subst e1
    unfold Den at d1
    subst d1
    obtain ⟨us, q, b⟩ := m1 a _ hp
    exact ⟨.inl ⟨rfl, us, SqL.of q⟩, hk H1 us Q m1 q b fun μ' d u H' p g => k μ' d u H' p (g1.trans g)⟩
theorem evx_app {to : TE} (h : EvX K W X μ ρ to fun μ1 o => ∃ a ds0, o = .at a ∧ μ1 a = some (.lst ds0) ∧ EvX K W X μ1 ρ te fun μ2 d => ∃ ds, μ2 a = some (.lst ds) ∧ ds.length ≤ 1000000 ∧ Φ (mput μ2 a (.lst (ds ++ [d]))) .non) : EvX K W X μ ρ (tBM K "list" rAppend to (tCons te tNil)) Φ :=
  evx_bmL (h.imp fun μ1 o ⟨a, ds0, e1, h0, h1⟩ => ⟨a, ds0, e1, h0, evl_cons (h1.imp fun μ2 d ⟨ds, hp, hz, hq⟩ => evl_nil ⟨ds, hp, fun H vs ws Q m q b d2 k => by
    obtain ⟨w, e2, dw⟩ := denL1 d2
    subst e2
    exact ⟨a, vs, w, rfl, rfl, q, by rw [← b.length]; exact Nat.lt_of_le_of_lt hz (by decide), k _ _ _ _ hq (Grow.wr hp) (m.wr hp ⟨_, upd_same, (DenL.grow (Grow.wr hp) _ _ b).append (DenL.cons (Den.grow (Grow.wr hp) _ _ dw) DenL.nil)⟩) (by unfold Den; rfl)⟩⟩)⟩)
abbrev rInsert : V → List V → Hp → VK → Prop := fun x vs H Q => ∃ (l : Addr) (xs : List V) (i : Int) (y : V), x = .ref l ∧ vs = [.int i, y] ∧ H l = some (.lst xs) ∧ xs.length < sizeLine ∧ 0 ≤ i ∧ i < 2 ^ 63 ∧ Q .non (upd H l (.lst (xs.take i.toNat ++ [y] ++ xs.drop i.toNat)))
/-- xs.insert(0, e) -/
theorem evx_ins0 {to : TE} (h : EvX K W X μ ρ to fun μ1 o => ∃ a ds0, o = .at a ∧ μ1 a = some (.lst ds0) ∧ EvX K W X μ1 ρ te fun μ2 d => ∃ ds, μ2 a = some (.lst ds) ∧ ds.length ≤ 1000000 ∧ Φ (mput μ2 a (.lst (d :: ds))) .non) :
    EvX K W X μ ρ (tBM K "list" rInsert to (tCons (tC (.int 0)) (tCons te tNil))) Φ :=
  evx_bmL (h.imp fun μ1 o ⟨a, ds0, e1, h0, h1⟩ => ⟨a, ds0, e1, h0, evl_cons (evx_int (evl_cons (h1.imp fun μ2 d ⟨ds, hp, hz, hq⟩ => evl_nil ⟨ds, hp, fun H vs ws Q m q b d2 k => by
    obtain ⟨w0, w, e2, dw0, dw⟩ := denL2 d2
    unfold Den at dw0
    subst dw0 e2
    exact ⟨a, vs, 0, w, rfl, rfl, q, by rw [← b.length]; exact Nat.lt_of_le_of_lt hz (by decide), by decide, by decide, k _ _ _ _ hq (Grow.wr hp) (m.wr hp ⟨_, upd_same, DenL.cons (Den.grow (Grow.wr hp) _ _ dw) (DenL.grow (Grow.wr hp) _ _ b)⟩) (by unfold Den; rfl)⟩⟩)))⟩)
theorem denL_dropLast : ∀ {ds : List D} {vs : List V}, DenL K μ H ds vs → DenL K μ H ds.dropLast vs.dropLast
  | [], vs, h => by unfold DenL at h; subst h; exact DenL.nil
  | [d], vs, h => by
    obtain ⟨w, e, _⟩ := denL1 h
    subst e; exact DenL.nil
  | d :: d' :: ds, vs, h => by
    unfold DenL at h
    obtain ⟨w, ws, e, a, b⟩ := h
    have b' := b
    unfold DenL at b'
    obtain ⟨w', ws', e', _, _⟩ := b'
    subst e e'
    exact DenL.cons a (denL_dropLast b)
/-- xs.pop() -/
theorem evx_pop {to : TE} (h : EvX K W X μ ρ to fun μ1 o => ∃ a ds d, o = .at a ∧ μ1 a = some (.lst ds) ∧ ds.getLast? = some d ∧ Φ (mput μ1 a (.lst ds.dropLast)) d) : EvX K W X μ ρ (tBM0 K "list" rPop to) Φ :=
  evx_bmL0 (h.imp fun μ1 o ⟨a, ds, d, e1, hp, hl, hq⟩ => ⟨a, ds, e1, hp, fun H vs Q m q b k => by
    rw [List.getLast?_eq_getElem?] at hl
    obtain ⟨v, h1, h2⟩ := b.get hl
    refine ⟨a, vs, v, rfl, rfl, q, by rw [← b.length]; exact h1, k _ _ _ _ hq (Grow.wr hp) (m.wr hp ⟨_, upd_same, DenL.grow (Grow.wr hp) _ _ (denL_dropLast b)⟩) (Den.grow (Grow.wr hp) _ _ h2)⟩⟩)
/-! ### ifs whose test is a decision -/
theorem ifD {p A B : Prop} [Decidable p] (h1 : p → A) (h2 : ¬p → B) : if decide p = true then A else B := by
  by_cases h : p
  · rw [if_pos (decide_eq_true h)]; exact h1 h
  · rw [if_neg (by rw [decide_eq_false h]; decide)]; exact h2 h
theorem ifN {p A B : Prop} [Decidable p] (h1 : ¬p → A) (h2 : p → B) : if (!decide p) = true then A else B := by
  by_cases h : p
  · rw [if_neg (by rw [decide_eq_true h]; decide)]; exact h2 h
  · rw [if_pos (by rw [decide_eq_false h]; rfl)]; exact h1 h
theorem ifB {b : Bool} {A B : Prop} (h1 : b = true → A) (h2 : b = false → B) : if b = true then A else B := by
  cases b with
  | true => rw [if_pos rfl]; exact h1 rfl
  | false => rw [if_neg (by decide)]; exact h2 rfl
theorem ifY {b : Bool} {A B : Prop} (h : b = true) (h1 : A) : if b = true then A else B := by rw [if_pos h]; exact h1
theorem ifNo {b : Bool} {A B : Prop} (h : b = false) (h1 : B) : if b = true then A else B := by rw [if_neg (by rw [h]; decide)]; exact h1
end
/-- an own error's class: where it stands, what is said of it, its __init__ -/
structure ExcD (K : PySem.W.Frag) (mg : Str → Option Value) (x : Str) (C fI : Addr) : Prop where
  m : mg x = some (.ref C)
  k : ExcK K C
  i : PySem.W.findIn K (.ref C) "__init__" = some (some (.ref fI))
/-- the __init__ that all of them have -/
structure IniD (P : Program) (w : World) (K : PySem.W.Frag) (mg : Str → Option Value) (base : Heap) (fI : Addr) : Prop where
  ex : ∃ fd : FuncData, PySem.W.typeIn K (.ref fI) = some (.type "function") ∧ FnOk P w K mg base CX0 1 fI fd ["self", "value"] (spInit K "value") ∧ Binds K fd ["self", "value"] []
theorem ps_raiseD {X : Cx} {W : WX} {x : Str} {C fI : Addr} {j : Nat} {e : Expr} {es : List Expr} {ta : TA} {p pos pos2 : Pos} (hC : ExcD X.K X.mg x C fI) (hI : IniD X.prog X.w X.K X.mg X.base fI) (hr : Room j X.A) (hj : 2 ≤ j) (tk : Takes X W) (ha : PA X (e :: es) ta)
    (hc : X.calm = true := by rfl) (hg : Gl X x := by rfl) (hdb : (x == ("__debug__" : Str)) = false := by decide)
    (he : starEach (e :: es) X.env = (false, eval e X.env) :: starEach es X.env := by rfl) (hpl : (backTo pos (starEach es X.env)).any (·.1) = false := by rfl) : PS X (.Raise (some (.Call (.Name x p) (e :: es) [] pos)) none pos2) (tRaiseO C W (spInit X.K "value") ta) := by
  obtain ⟨fd, h1, h2, h3⟩ := hI.ex
  exact ps_raise hc tk (pmk_oex hC.k.ox hC.i h1 h2 (hr.mono hj) h3 .nil pass0 hg hC.m ha hdb he hpl)
/-- WorthError's __init__ keeps its promise -/
theorem ini_ok {P : Program} {w : World} {K : PySem.W.Frag} {mg : Str → Option Value} {base : Heap} {st : Stmt} {f : Addr} {fd : FuncData} (F : Fun K "__init__" "WorthError.__init__" st f fd) (S : FnScope ["self", "value"] ["self", "value"] (defScope st))
    (h : ∀ (cdv : Value) (A : Around) (outer : List Env) (s : Shared) (H : Hp) (E : XK), PSs (cxOf CX0 P w K mg base ["self", "value"] "WorthError.__init__" (defScope st) f cdv A outer s H E).nox (defBody st) (tSeq (tDrop (tVeI K (tCons (tVar 0) (tCons (tVar 1) tNil)))) (tOst K "value" (tVar 0) (tVar 1)))) :
    FnOk P w K mg base CX0 1 f fd ["self", "value"] (spInit K "value") := by
  refine F.ok S (fun vs H Q E h => ?_) fun cdv A outer s H vs Q E hr hs => ⟨_, h cdv A outer s H E, ?_⟩
  · obtain ⟨a, C, v, rfl, _⟩ := h
    rfl
  · obtain ⟨a, C, v, rfl, T, hn, ea, k⟩ := hs
    exact ⟨_, rfl, _, rfl, a, C, [v], rfl, (by show 1 ≤ 1000; decide), T, ea, _, rfl, _, rfl, a, C, rfl, T, hn, .inl ⟨ea, fun dx h1 h2 => k dx h1 h2⟩⟩
theorem gs_mid {K : PySem.W.Frag} {W : WX} {X : XD} {μ : Mu} {ρ : Ro} {E : ED} {t u : TS} (M : Mu → Ro → Prop) (h : GS K W X μ ρ t { E with nx := M }) (k : ∀ μ1 ρ1, M μ1 ρ1 → GS K W X μ1 ρ1 u E) : GS K W X μ ρ (tSeq t u) E :=
  gs_seq (h.imp k (fun _ _ z => z) (fun _ _ z => z) (fun _ _ z => z))
theorem opx_ixA {K : PySem.W.Frag} {μ : Mu} {a : Addr} {es : List D} {i : Int} {d : D} {Φ : DP} (h : μ a = some (.lst es)) (ha : atI es i = some d) (q : Φ μ d) : OpX K (rIx K) μ (.at a) (.int i) Φ := opx_ix (x := .at a) h ha q
theorem tgx_subA {K : PySem.W.Frag} {W : WX} {X : XD} {μ : Mu} {ρ : Ro} {to ti : TE} {d : D} {Φ : Mu → Ro → Prop} {a : Addr} {ds : List D} {k : Int} {j : Nat} (h1 : μ a = some (.lst ds)) (hj : ixN ds.length k = some j) (q : Φ (mput μ a (.lst (ds.set j d))) ρ) (ho : ∀ Ψ : DP, Ψ μ (.at a) → EvX K W X μ ρ to Ψ) (hi : ∀ Ψ : DP, Ψ μ (.int k) → EvX K W X μ ρ ti Ψ) : TgX K W X μ ρ (gSub to ti rSetL) d Φ :=
  tgx_sub (ho _ (hi _ ⟨a, ds, k, j, rfl, rfl, h1, hj, q⟩))
theorem see_at {μ : Mu} {a : Addr} {ds : List D} (h : μ a = some (.lst ds)) : seeD μ (.at a) = .lst ds := by
  unfold seeD
  dsimp only
  rw [h]
theorem isL_lst {μ : Mu} {ds : List D} : IsL μ (.lst ds) ds (fun _ => True) := .inl ⟨.inl rfl, rfl⟩
theorem isL_frz {μ : Mu} {ds : List D} : IsL μ (.frz ds) ds (fun _ => True) := .inl ⟨.inr rfl, rfl⟩
theorem isL_at {μ : Mu} {a : Addr} {ds : List D} (h : μ a = some (.lst ds)) : IsL μ (.at a) ds (fun μ' => μ' a = some (.lst ds)) := .inr ⟨a, rfl, h, rfl⟩
theorem gs_never {K : PySem.W.Frag} {W : WX} {X : XD} {μ : Mu} {ρ : Ro} {E : ED} (h : False) : GS K W X μ ρ tNever E := h.elim
/-! ### the laws' decks -/
/-- a deck at a, its great cells at g, at most c draws so far -/
structure DeckAt (a g : Addr) (c : Int) (μ : Mu) (gs : List Int) (o m k : Int) : Prop where
  ne : a ≠ g
  ha : μ a = some (.lst [.at g, .int o, .int m, .int k])
  hg : μ g = some (.lst (gs.map D.int))
  gs : ∀ x ∈ gs, 0 ≤ x ∧ x.natAbs < 2 ^ 1048577
  o0 : 0 ≤ o
  o1 : o.natAbs < 2 ^ 1048577
  m0 : 0 ≤ m
  m1 : m ≤ 1000000000000000003
  k0 : 0 ≤ k
  k1 : k ≤ c
def Deck (a g : Addr) (c : Int) (μ : Mu) : Prop := ∃ gs o m k, DeckAt a g c μ gs o m k
/-- all but a and g as it was -/
def But (a g : Addr) (μ μ' : Mu) : Prop := ∀ b, b ≠ a → b ≠ g → μ' b = μ b
theorem But.refl (a g : Addr) (μ : Mu) : But a g μ μ := fun _ _ _ => rfl
theorem But.trans {a g : Addr} {μ μ1 μ2 : Mu} (h : But a g μ μ1) (k : But a g μ1 μ2) : But a g μ μ2 := fun b h1 h2 => (k b h1 h2).trans (h b h1 h2)
theorem But.put1 {a g : Addr} {μ : Mu} {o : MO} : But a g μ (mput μ a o) := fun b h1 _ => mput_ne h1
theorem But.put2 {a g : Addr} {μ : Mu} {o : MO} : But a g μ (mput μ g o) := fun b _ h2 => mput_ne h2
theorem Deck.mono {a g : Addr} {c c' : Int} {μ : Mu} (h : Deck a g c μ) (hc : c ≤ c') : Deck a g c' μ := by
  obtain ⟨gs, o, m, k, d⟩ := h
  exact ⟨gs, o, m, k, d.ne, d.ha, d.hg, d.gs, d.o0, d.o1, d.m0, d.m1, d.k0, by have := d.k1; omega⟩
/-- something else changes -/
theorem Deck.but {a g p : Addr} {c : Int} {μ : Mu} {o : MO} (h : Deck a g c μ) (h1 : p ≠ a) (h2 : p ≠ g) : Deck a g c (mput μ p o) := by
  obtain ⟨gs, o, m, k, d⟩ := h
  exact ⟨gs, o, m, k, d.ne, by rw [mput_ne (Ne.symm h1)]; exact d.ha, by rw [mput_ne (Ne.symm h2)]; exact d.hg, d.gs, d.o0, d.o1, d.m0, d.m1, d.k0, d.k1⟩
theorem kit_NoneType_list : kitB "NoneType" "list" = some false := by decide +kernel
theorem kit_NoneType_tuple : kitB "NoneType" "tuple" = some false := by decide +kernel
theorem kit_NoneType_str : kitB "NoneType" "str" = some false := by decide +kernel
theorem kit_NoneType_bool : kitB "NoneType" "bool" = some false := by decide +kernel
theorem kit_NoneType_int : kitB "NoneType" "int" = some false := by decide +kernel
theorem kit_NoneType_dict : kitB "NoneType" "dict" = some false := by decide +kernel
theorem kit_bool_list : kitB "bool" "list" = some false := by decide +kernel
theorem kit_bool_tuple : kitB "bool" "tuple" = some false := by decide +kernel
theorem kit_bool_str : kitB "bool" "str" = some false := by decide +kernel
theorem kit_bool_bool : kitB "bool" "bool" = some true := by decide +kernel
theorem kit_bool_int : kitB "bool" "int" = some true := by decide +kernel
theorem kit_bool_dict : kitB "bool" "dict" = some false := by decide +kernel
theorem kit_int_list : kitB "int" "list" = some false := by decide +kernel
theorem kit_int_tuple : kitB "int" "tuple" = some false := by decide +kernel
theorem kit_int_str : kitB "int" "str" = some false := by decide +kernel
theorem kit_int_bool : kitB "int" "bool" = some false := by decide +kernel
theorem kit_int_int : kitB "int" "int" = some true := by decide +kernel
theorem kit_int_dict : kitB "int" "dict" = some false := by decide +kernel
theorem kit_str_list : kitB "str" "list" = some false := by decide +kernel
theorem kit_str_tuple : kitB "str" "tuple" = some false := by decide +kernel
theorem kit_str_str : kitB "str" "str" = some true := by decide +kernel
theorem kit_str_bool : kitB "str" "bool" = some false := by decide +kernel
theorem kit_str_int : kitB "str" "int" = some false := by decide +kernel
theorem kit_str_dict : kitB "str" "dict" = some false := by decide +kernel
theorem kit_tuple_list : kitB "tuple" "list" = some false := by decide +kernel
theorem kit_tuple_tuple : kitB "tuple" "tuple" = some true := by decide +kernel
theorem kit_tuple_str : kitB "tuple" "str" = some false := by decide +kernel
theorem kit_tuple_bool : kitB "tuple" "bool" = some false := by decide +kernel
theorem kit_tuple_int : kitB "tuple" "int" = some false := by decide +kernel
theorem kit_tuple_dict : kitB "tuple" "dict" = some false := by decide +kernel
theorem kit_list_list : kitB "list" "list" = some true := by decide +kernel
theorem kit_list_tuple : kitB "list" "tuple" = some false := by decide +kernel
theorem kit_list_str : kitB "list" "str" = some false := by decide +kernel
theorem kit_list_bool : kitB "list" "bool" = some false := by decide +kernel
theorem kit_list_int : kitB "list" "int" = some false := by decide +kernel
theorem kit_list_dict : kitB "list" "dict" = some false := by decide +kernel
theorem kit_dict_list : kitB "dict" "list" = some false := by decide +kernel
theorem kit_dict_tuple : kitB "dict" "tuple" = some false := by decide +kernel
theorem kit_dict_str : kitB "dict" "str" = some false := by decide +kernel
theorem kit_dict_bool : kitB "dict" "bool" = some false := by decide +kernel
theorem kit_dict_int : kitB "dict" "int" = some false := by decide +kernel
theorem kit_dict_dict : kitB "dict" "dict" = some true := by decide +kernel
theorem kits_NoneType_lt : kitBs "NoneType" ["list", "tuple"] = some false := by decide +kernel
theorem kits_bool_lt : kitBs "bool" ["list", "tuple"] = some false := by decide +kernel
theorem kits_int_lt : kitBs "int" ["list", "tuple"] = some false := by decide +kernel
theorem kits_str_lt : kitBs "str" ["list", "tuple"] = some false := by decide +kernel
theorem kits_tuple_lt : kitBs "tuple" ["list", "tuple"] = some true := by decide +kernel
theorem kits_list_lt : kitBs "list" ["list", "tuple"] = some true := by decide +kernel
theorem kits_dict_lt : kitBs "dict" ["list", "tuple"] = some false := by decide +kernel
/-- nobody may call it so: a promise of nothing -/
theorem cal_false {P : Program} {w : World} {K : PySem.W.Frag} {mg : Str → Option Value} {base : Heap} {x : Str} {st : Stmt} {ps : List Str} {n : Nat} (h : Std K mg x st)
    (hbi : ∀ (kV doc pm : Value) (an : Option Addr) (cdv ct : Value) (us : List Value), us.length = ps.length → bindArgs (PySem.W.fnOf x x (defArgs st) (defBody st) (defScope st) .none kV doc pm an cdv ct) ⟨us, []⟩ = pure (ps.zip us)) :
    Cal P w K mg base CX0 0 x st ps (spD K n (fun _ _ _ _ => False)) := by
  obtain ⟨f, fd, h1, F⟩ := h
  exact ⟨f, fd, h1, F, ⟨fun vs H Q E ⟨_, _, _, _, _, _, _, z, _⟩ => z.elim, fun A outer s H args us vs Q E hr he hb hv ⟨_, _, _, _, _, _, _, z, _⟩ => z.elim⟩, F.binds hbi⟩
/-- plain data, at most n deep -/
def alD : Nat → D → Bool
  | _, .non => true
  | _, .bl _ => true
  | _, .int _ => true
  | _, .str _ => true
  | n + 1, .tup ds => ds.all (alD n) && decide (ds.length ≤ 1000000)
  | n + 1, .lst ds => ds.all (alD n) && decide (ds.length ≤ 1000000)
  | _, _ => false
/-- the laws' comparison: of what is the same -/
def P_alike : Nat → PD
  | 0 => fun _ _ _ _ => False
  | n + 1 => fun μ ds post _ => ∃ d, ds = [d, d] ∧ alD n d = true ∧ post μ (.bl true)
theorem gs_neverH {K : PySem.W.Frag} {W : WX} {X : XD} {μ : Mu} {ρ : Ro} {E : ED} {t : TS} (h : False) : GS K W X μ ρ t E := h.elim
theorem pairs_same {ds : List D} {i : Nat} {d : D} (h : (pairsD ds ds)[i]? = some d) : ∃ x, x ∈ ds ∧ d = .tup [x, x] := by
  obtain ⟨x, y, h1, h2, e⟩ := pairsD_get h
  rw [h1] at h2
  cases h2
  exact ⟨x, List.mem_of_getElem? h1, e⟩
theorem denL_ints {K : PySem.W.Frag} {μ : Mu} {H : Hp} : ∀ ns : List Int, DenL K μ H (ns.map D.int) (ns.map V.int)
  | [] => DenL.nil
  | n :: ns => DenL.cons (by unfold Den; rfl) (denL_ints ns)
theorem bits_lt {z : Int} (h : Builtin.Int.intBits z ≤ 1048576) : z.natAbs < 2 ^ 1048576 := by
  unfold Builtin.Int.intBits at h
  split at h
  · rename_i h0
    have : z.natAbs = 0 := by simpa using h0
    rw [this]
    exact Nat.two_pow_pos _
  · rename_i h0
    have h1 : z.natAbs ≠ 0 := by simpa using h0
    exact (Nat.log2_lt h1).mp (by omega)
/-- a law's promise, from its P at the script -/
theorem sp_start {K : PySem.W.Frag} {P : PD} (h : ∀ ns : List Int, ns.length ≤ 63 → (∀ n ∈ ns, n.natAbs < 2 ^ 1048576) → P (fun _ => none) [.frz (ns.map D.int)] (fun _ d => d = .bl true) excN)
    (H : Hp) (a : Addr) (ns : List Int) (hl : ns.length ≤ 63) (hb : ∀ z ∈ ns, Builtin.Int.intBits z ≤ 1048576) (hO : Only H) (hs : SqL K H a (ns.map V.int)) : spD K 1 P [.ref a] H (fun v _ => v = .bl true) fun _ _ _ => False := by
  refine ⟨fun _ => none, [.frz (ns.map D.int)], (fun _ d => d = .bl true), excN, ?_, ?_, rfl, h ns hl (fun n hn => bits_lt (hb n hn)), ?_, ?_⟩
  · intro b o e
    cases e
  · refine DenL.cons ?_ DenL.nil
    unfold Den
    refine ⟨a, _, rfl, ?_, denL_ints ns⟩
    rcases hs with hs | hs
    · exact .inl ⟨rfl, hs⟩
    · exact .inr hs
  · intro μ' d v H' hd _ _ dv
    have hd' : d = .bl true := hd
    subst hd'
    unfold Den at dv
    exact dv
  · intro μ' C d dx v H' z
    exact z.elim
theorem cal_at {P : Program} {w : World} {K : PySem.W.Frag} {mg : Str → Option Value} {base : Heap} {CX : CXT} {k : Nat} {x : Str} {st : Stmt} {ps : List Str} {sp : Sp} {f : Addr} {fd : FuncData} (c : Cal P w K mg base CX k x st ps sp) (hm : mg x = some (.ref f)) (F : Fun K x x st f fd) : FnOk P w K mg base CX k f fd ps sp := by
  obtain ⟨f', fd', h1, F', G, _⟩ := c.ex
  rw [hm] at h1
  cases h1
  obtain ⟨_, _, _, _, _, _, _, _, _, _, l1, _⟩ := F.ex
  obtain ⟨_, _, _, _, _, _, _, _, _, _, l2, _⟩ := F'.ex
  rw [l1] at l2
  have := Option.some.inj l2
  cases this
  exact G
/-- f(k = v, ..) whose errors are wished for at the caller's slots -/
def tCallKS (sp : Sp) (gV : List V → List V → List V) (E : L2.St → XK) (tk : TA) : TE := fun σ H Q => tk σ H fun zs H2 => sp (gV [] zs) H2 Q (E σ)
section
variable {X : Cx} {CX : CXT} {k j : Nat} {f : Addr} {fd : FuncData} {ps ks : List Str} {sp : Sp} {x : Str} {p pos : Pos} {kws : List Keyword} {tk : TA} {g : List Value → List Value → List Value} {gV : List V → List V → List V} {st : Stmt} {n m : Nat} {pm : List Nat} {E : L2.St → XK}
theorem pe_callK0S (F : FnOk X.prog X.w X.K X.mg X.base CX k f fd ps sp) (hr : Room k X.A) (hg : Gl X x) (hm : X.mg x = some (.ref f)) (hk : PySem.W.keepIn X.K (.ref f) = true) (hb : KBinds X.K fd ps ks g gV) (hx : ∀ σ, PassesAt CX X σ (E σ))
    (hkw : PK X kws tk) (hall : (backToKw pos (keywordEach kws X.env)).all (·.1.isSome) = true := by rfl) (hks : (backToKw pos (keywordEach kws X.env)).filterMap (·.1) = ks := by rfl)
    (hdb : (x == ("__debug__" : Str)) = false := by decide) (hn : ((backTo pos (starEach [] X.env)).any (·.1) || (backToKw pos (keywordEach kws X.env)).any (·.1.isNone)) = false := by rfl) :
    PE X (.Call (.Name x p) [] kws pos) (tCallKS sp gV E tk) := by
  constructor
  intro pins s σ H Q I h
  apply wpAny_Call_Name_kw (ld_glob I hg hm ?_ hdb)
  refine PySem.W.callWith_KW0 (h₀ := X.base) I.ok.mod.kin hk hall ?_ hn
  refine thn (hkw.run pos pins s σ H _ I h) fun ws s2 hh => ?_
  obtain ⟨zs, H2, I2, rz, q2⟩ := hh
  refine ⟨I2.kIn, ?_⟩
  rw [hks]
  have r2 := hb.rel (vs := []) (us := []) .nil rz
  have hl : (g [] ws).length = ps.length := r2.length.symm.trans (F.len _ _ _ _ q2)
  refine wpAny_call (codeAny_mono (F.run X.A X.stack s2 H2 ⟨[], ks.zip ws⟩ (g [] ws) (gV [] zs) Q (E σ) hr I2.env0 (hb.to s2 [] ws I2.kIn hl) r2 q2) fun r s' hq => ?_)
  rcases r with e | (_ | _ | _ | u)
  · exact hx σ pins H2 s2 e s' I2 hq
  · exact False.elim hq
  · exact False.elim hq
  · exact False.elim hq
  · exact I2.after hq
theorem pe_ckS {W : WX} (c : Cal X.prog X.w X.K X.mg X.base (L2.CX X.prog X.w) k x st ps sp) (hr : Room j X.A) (hj : k ≤ j) (hp : ps ≠ []) (tw : Takes X W)
    (h : ∀ (kV doc pv : Value) (an : Option Addr) (cdv ct : Value) (us ws : List Value), us.length = n → ws.length = m → bindArgs (PySem.W.fnOf x x (defArgs st) (defBody st) (defScope st) .none kV doc pv an cdv ct) ⟨us, ks.zip ws⟩ = pure (ps.zip (pm.filterMap fun i => (us ++ ws)[i]?)))
    (hkw : PK X kws tk) (hg : Gl X x := by rfl) (hall : (backToKw pos (keywordEach kws X.env)).all (·.1.isSome) = true := by rfl) (hks : (backToKw pos (keywordEach kws X.env)).filterMap (·.1) = ks := by rfl)
    (hdb : (x == ("__debug__" : Str)) = false := by decide) (hn : ((backTo pos (starEach [] X.env)).any (·.1) || (backToKw pos (keywordEach kws X.env)).any (·.1.isNone)) = false := by rfl) :
    PE X (.Call (.Name x p) [] kws pos) (tCallKS sp (permG n m pm) (WE W) tk) := by
  obtain ⟨f, fd, h1, F, G, b⟩ := c.ex
  exact pe_callK0S G (hr.mono hj) hg h1 F.kp (kb_of F hp h) (fun σ => passAt tw σ) hkw hall hks hdb hn
end
theorem evx_ckS {K : PySem.W.Frag} {W : WX} {X : XD} {μ : Mu} {ρ : Ro} {Φ : DP} {n a b : Nat} {pm : List Nat} {P : PD} {tk : TA} (h : EvL K W X μ ρ tk fun μ2 es => (permG a b pm [] es).length = n ∧ P μ2 (permG a b pm [] es) Φ fun μ' C d => X μ' ρ C d) :
    EvX K W X μ ρ (tCallKS (spD K n P) (permG a b pm) (WE W) tk) Φ := fun σ H Q m e l k =>
  h σ H _ m e l fun μ1 ds vs H1 ⟨hl, hp⟩ g1 m1 d1 => ⟨μ1, _, Φ, _, m1, permG_den DenL.nil d1, hl, hp, fun μ' d v H' p g => k μ' d v H' p (g1.trans g), fun μ' C d dx v H' p g mm => l μ' ρ C d dx v σ H' p (g1.trans g) mm ((e.grow g1).grow g)⟩
/-! ### slices -/
def EvO (K : PySem.W.Frag) (W : WX) (X : XD) (μ : Mu) (ρ : Ro) (t : TO) (Φ : Mu → Option Int → Prop) : Prop := ∀ (σ : L2.St) (H : Hp) (Q : Option Int → Hp → Prop), Mem K μ H → EnvIs K μ H ρ σ → LiftX K μ H X W → (∀ μ' o H', Φ μ' o → Grow μ H μ' H' → Mem K μ' H' → Q o H') → t σ H Q
def SlX (K : PySem.W.Frag) (r : V → Option Int → Option Int → Hp → VK → Prop) (μ : Mu) (x : D) (l u : Option Int) (Φ : DP) : Prop := ∀ (H : Hp) (v : V) (Q : VK), Mem K μ H → Den K μ H x v → (∀ μ' d w H', Φ μ' d → Grow μ H μ' H' → Mem K μ' H' → Den K μ' H' d w → Q w H') → r v l u H Q
section
variable {K : PySem.W.Frag} {W : WX} {X : XD} {μ : Mu} {ρ : Ro} {Φ : DP} {te : TE} {tl th : TO}
theorem evo_none {Φ : Mu → Option Int → Prop} (h : Φ μ none) : EvO K W X μ ρ tNoPart Φ := fun σ H Q m e l k => k μ none H h (Grow.refl _ _) m
theorem evo_part {Φ : Mu → Option Int → Prop} (h : EvX K W X μ ρ te fun μ1 d => ∃ i, d = .int i ∧ Φ μ1 (some i)) : EvO K W X μ ρ (tPart te) Φ := fun σ H Q m e l k =>
  h σ H _ m e l fun μ1 d v H1 ⟨i, hd, hp⟩ g1 m1 d1 => ⟨i, by subst hd; unfold Den at d1; exact d1, k μ1 _ H1 hp g1 m1⟩
theorem evx_sl {r : V → Option Int → Option Int → Hp → VK → Prop} (h : EvX K W X μ ρ te fun μ1 x => EvO K W X μ1 ρ tl fun μ2 l => EvO K W X μ2 ρ th fun μ3 u => SlX K r μ3 x l u Φ) : EvX K W X μ ρ (L2.tSl r te tl th) Φ := fun σ H Q m e l k =>
  h σ H _ m e l fun μ1 x v H1 h1 g1 m1 d1 => h1 σ H1 _ m1 (e.grow g1) (l.grow g1) fun μ2 o1 H2 h2 g2 m2 => h2 σ H2 _ m2 ((e.grow g1).grow g2) ((l.grow g1).grow g2) fun μ3 o2 H3 h3 g3 m3 =>
    h3 H3 v Q m3 (Den.grow g3 _ _ (Den.grow g2 _ _ d1)) fun μ' d w H' p g => k μ' d w H' p (((g1.trans g2).trans g3).trans g)
theorem slx_S {z : Str} {lo hi : Option Int} (hz : z.length ≤ 1000000) (h : Φ μ (.str (cutS z lo hi))) : SlX K rSlS μ (.str z) lo hi Φ := fun H v Q m d k => by
  unfold Den at d
  exact ⟨z, d, Nat.le_trans hz (by decide), k μ _ _ H h (Grow.refl _ _) m (by unfold Den; rfl)⟩
end
/-- the same inside a try -/
theorem op_eqTr {X : Cx} {pn : List (Addr × Obj)} {xe : Value → Shared → Prop} (hu : X.A.units + 64 < cLine) : OpR (X.tr pn xe) (compareOp .Eq) (rEqU X.K) := op_eqU (X := X.tr pn xe) hu
theorem op_neTr {X : Cx} {pn : List (Addr × Obj)} {xe : Value → Shared → Prop} (hu : X.A.units + 64 < cLine) : OpR (X.tr pn xe) (compareOp .NotEq) (rNeU X.K) := op_neU (X := X.tr pn xe) hu
/-- list(a tuple): a fresh list that will change -/
theorem cax_listM {K : PySem.W.Frag} {μ : Mu} {es : List D} {Φ : DP} (h : ∀ p, μ p = none → Φ (mput μ p (.lst es)) (.at p)) :
    CaX K (fun xs H Q => ∃ p ys, xs = [.ref p] ∧ (SqL K H p ys ∨ SqT K H p ys) ∧ ∀ l, H l = none → Q (.ref l) (upd H l (.lst ys))) μ [.tup es] Φ := fun H vs Q m d k => by
  obtain ⟨v, e, a⟩ := denL1 d
  unfold Den at a
  obtain ⟨p, us, e2, s, b⟩ := a
  subst e2
  exact ⟨p, us, e, .inr s.sq, fun l hl => k _ _ _ _ (h l (m.free hl)) (Grow.newM hl) (m.newM hl ⟨us, upd_same, DenL.grow (Grow.newM hl) _ _ b⟩) (by unfold Den; rfl)⟩
/-! ### lists of texts, and what lists can do besides -/
section
variable {K : PySem.W.Frag} {W : WX} {X : XD} {μ : Mu} {H : Hp} {ρ : Ro} {Φ : DP} {te to : TE} {x y d : D} {ds xs ys : List D}
theorem isL_sq {S : Mu → Prop} {v : V} (m : Mem K μ H) (hd : IsL μ d ds S) (dv : Den K μ H d v) : ∃ p vs, v = .ref p ∧ SqL K H p vs ∧ DenL K μ H ds vs := by
  rcases hd with ⟨e1, hS⟩ | ⟨a, e1, ha, hS⟩
  · obtain ⟨p, vs, e2, s, b⟩ : ∃ p vs, v = .ref p ∧ StS K μ H p vs ∧ DenL K μ H ds vs := by
      rcases e1 with e1 | e1
      · subst e1; unfold Den at dv
        obtain ⟨p, vs, e2, s, b⟩ := dv
        exact ⟨p, vs, e2, .inl ⟨s.1, .inl s.2⟩, b⟩
      · subst e1; unfold Den at dv; exact dv
    exact ⟨p, vs, e2, s.sq, b⟩
  · subst e1
    unfold Den at dv
    obtain ⟨vs, q, b⟩ := m a _ ha
    exact ⟨a, vs, dv, SqL.of q, b⟩
/-- a list of the program's own making -/
def Real (μ : Mu) (d : D) (ds : List D) : Prop := d = .lst ds ∨ ∃ a, d = .at a ∧ μ a = some (.lst ds)
theorem real_lst {μ : Mu} : Real μ (.lst ds) ds := .inl rfl
theorem real_at {μ : Mu} {a : Addr} (h : μ a = some (.lst ds)) : Real μ (.at a) ds := .inr ⟨a, rfl, h⟩
theorem Real.hp {v : V} (m : Mem K μ H) (hd : Real μ d ds) (dv : Den K μ H d v) : ∃ p vs, v = .ref p ∧ H p = some (.lst vs) ∧ DenL K μ H ds vs := by
  rcases hd with e1 | ⟨a, e1, ha⟩
  · subst e1; unfold Den at dv
    obtain ⟨p, vs, e2, s, b⟩ := dv
    exact ⟨p, vs, e2, s.2, b⟩
  · subst e1
    unfold Den at dv
    obtain ⟨vs, q, b⟩ := m a _ ha
    exact ⟨a, vs, dv, q, b⟩
theorem denStr : ∀ {zs : List Str} {vs : List V}, DenL K μ H (zs.map D.str) vs → vs = zs.map V.str
  | [], vs, h => by unfold List.map DenL at h; exact h
  | z :: zs, vs, h => by
    rw [List.map_cons] at h
    unfold DenL at h
    obtain ⟨w, ws, e, a, b⟩ := h
    unfold Den at a
    subst e a
    rw [denStr b, List.map_cons]
theorem strDen : ∀ (zs : List Str), DenL K μ H (zs.map D.str) (zs.map V.str)
  | [] => DenL.nil
  | z :: zs => DenL.cons (by unfold Den; rfl) (strDen zs)
theorem DenL.drop : ∀ (n : Nat) {ds : List D} {vs : List V}, DenL K μ H ds vs → DenL K μ H (ds.drop n) (vs.drop n)
  | 0, ds, vs, h => h
  | n + 1, [], vs, h => by unfold DenL at h; subst h; exact DenL.nil
  | n + 1, d :: ds, vs, h => by
    unfold DenL at h
    obtain ⟨w, ws, e, a, b⟩ := h
    subst e
    exact DenL.drop n b
theorem DenL.take : ∀ (n : Nat) {ds : List D} {vs : List V}, DenL K μ H ds vs → DenL K μ H (ds.take n) (vs.take n)
  | 0, ds, vs, h => DenL.nil
  | n + 1, [], vs, h => by unfold DenL at h; subst h; exact DenL.nil
  | n + 1, d :: ds, vs, h => by
    unfold DenL at h
    obtain ⟨w, ws, e, a, b⟩ := h
    subst e
    exact DenL.cons a (DenL.take n b)
theorem DenL.eraseIdx : ∀ (n : Nat) {ds : List D} {vs : List V}, DenL K μ H ds vs → DenL K μ H (ds.eraseIdx n) (vs.eraseIdx n)
  | n, [], vs, h => by unfold DenL at h; subst h; exact DenL.nil
  | 0, d :: ds, vs, h => by
    unfold DenL at h
    obtain ⟨w, ws, e, a, b⟩ := h
    subst e
    exact b
  | n + 1, d :: ds, vs, h => by
    unfold DenL at h
    obtain ⟨w, ws, e, a, b⟩ := h
    subst e
    exact DenL.cons a (DenL.eraseIdx n b)
theorem DenL.reverse : ∀ {ds : List D} {vs : List V}, DenL K μ H ds vs → DenL K μ H ds.reverse vs.reverse
  | [], vs, h => by unfold DenL at h; subst h; exact DenL.nil
  | d :: ds, vs, h => by
    unfold DenL at h
    obtain ⟨w, ws, e, a, b⟩ := h
    subst e
    rw [List.reverse_cons, List.reverse_cons]
    exact (DenL.reverse b).append (DenL.cons a DenL.nil)
theorem DenL.rep (h : DenL K μ H ds vs) : ∀ n : Nat, DenL K μ H (List.replicate n ds).flatten (List.replicate n vs).flatten
  | 0 => DenL.nil
  | n + 1 => by
    rw [List.replicate_succ, List.replicate_succ, List.flatten_cons, List.flatten_cons]
    exact h.append (DenL.rep h n)
/-- ds[lo:hi] -/
def cutD (ds : List D) (lo hi : Option Int) : List D := (ds.drop (HT.sIx ds.length 0 lo)).take (HT.sIx ds.length ds.length hi - HT.sIx ds.length 0 lo)
theorem DenL.cut {vs : List V} (lo hi : Option Int) (h : DenL K μ H ds vs) : DenL K μ H (cutD ds lo hi) (cutV vs lo hi) := by
  unfold cutD cutV
  rw [h.length]
  exact (h.drop _).take _
theorem slx_L {S : Mu → Prop} {lo hi : Option Int} (hd : IsL μ x ds S) (h : Φ μ (.lst (cutD ds lo hi))) : SlX K (rSlL K) μ x lo hi Φ := fun H v Q m dv k => by
  obtain ⟨p, vs, e, sq, b⟩ := isL_sq m hd dv
  subst e
  exact ⟨p, vs, rfl, sq, fun p' hp => k μ _ _ _ h (Grow.new hp) (m.new hp) (by
    unfold Den
    exact ⟨p', _, rfl, ⟨m.free hp, upd_same⟩, DenL.grow (Grow.new hp) _ _ (b.cut lo hi)⟩)⟩
theorem slx_LM {S : Mu → Prop} {lo hi : Option Int} (hd : IsL μ x ds S) (h : ∀ p, μ p = none → Φ (mput μ p (.lst (cutD ds lo hi))) (.at p)) : SlX K (rSlL K) μ x lo hi Φ := fun H v Q m dv k => by
  obtain ⟨p, vs, e, sq, b⟩ := isL_sq m hd dv
  subst e
  exact ⟨p, vs, rfl, sq, fun p' hp => k _ _ _ _ (h p' (m.free hp)) (Grow.newM hp) (m.newM hp ⟨_, upd_same, DenL.grow (Grow.newM hp) _ _ (b.cut lo hi)⟩) (by unfold Den; rfl)⟩
/-- list(..) of a list -/
theorem cax_listL {S : Mu → Prop} (hd : IsL μ x ds S) (h : Φ μ (.lst ds)) :
    CaX K (fun xs H Q => ∃ p ys, xs = [.ref p] ∧ (SqL K H p ys ∨ SqT K H p ys) ∧ ∀ l, H l = none → Q (.ref l) (upd H l (.lst ys))) μ [x] Φ := fun H vs Q m d k => by
  obtain ⟨v, e, a⟩ := denL1 d
  obtain ⟨p, us, e2, sq, b⟩ := isL_sq m hd a
  subst e2
  exact ⟨p, us, e, .inl sq, fun l hl => k _ _ _ _ h (Grow.new hl) (m.new hl) (by
    unfold Den
    exact ⟨l, _, rfl, ⟨m.free hl, upd_same⟩, DenL.grow (Grow.new hl) _ _ b⟩)⟩
theorem cax_listLM {S : Mu → Prop} (hd : IsL μ x ds S) (h : ∀ p, μ p = none → Φ (mput μ p (.lst ds)) (.at p)) :
    CaX K (fun xs H Q => ∃ p ys, xs = [.ref p] ∧ (SqL K H p ys ∨ SqT K H p ys) ∧ ∀ l, H l = none → Q (.ref l) (upd H l (.lst ys))) μ [x] Φ := fun H vs Q m d k => by
  obtain ⟨v, e, a⟩ := denL1 d
  obtain ⟨p, us, e2, sq, b⟩ := isL_sq m hd a
  subst e2
  exact ⟨p, us, e, .inl sq, fun l hl => k _ _ _ _ (h l (m.free hl)) (Grow.newM hl) (m.newM hl ⟨_, upd_same, DenL.grow (Grow.newM hl) _ _ b⟩) (by unfold Den; rfl)⟩
abbrev rJoin (K : PySem.W.Frag) : V → List V → Hp → VK → Prop := fun x xs H Q => ∃ a p, ∃ ys : List Str, x = .str a ∧ xs = [.ref p] ∧ (SqL K H p (ys.map V.str) ∨ SqT K H p (ys.map V.str)) ∧
  (ys.map (·.length)).sum + ys.length * a.length ≤ 16777216 ∧ Q (.str (Txt.join a ys)) H
/-- sep.join(texts) -/
theorem evx_join (h : EvX K W X μ ρ to fun μ1 o => ∃ a, o = .str a ∧ EvX K W X μ1 ρ te fun μ2 d => ∃ (zs : List Str) (S : Mu → Prop), IsL μ2 d (zs.map D.str) S ∧ (zs.map (·.length)).sum + zs.length * a.length ≤ 1000000 ∧ Φ μ2 (.str (Txt.join a zs))) :
    EvX K W X μ ρ (tM1 (rJoin K) to te) Φ := fun σ H Q m e l k =>
  h σ H _ m e l fun μ1 o v H1 ⟨a, e1, h1⟩ g1 m1 d1 => by
    subst e1
    unfold Den at d1
    subst d1
    refine ⟨⟨a, rfl⟩, h1 σ H1 _ m1 (e.grow g1) (l.grow g1) fun μ2 d u H2 ⟨zs, S, hi, hz, hq⟩ g2 m2 d2 => ?_⟩
    obtain ⟨p, vs, e2, sq, b⟩ := isL_sq m2 hi d2
    subst e2
    rw [denStr b] at sq
    exact ⟨a, p, zs, rfl, rfl, .inl sq, Nat.le_trans hz (by decide), k μ2 _ _ H2 hq (g1.trans g2) m2 (by unfold Den; rfl)⟩
/-- sorted(texts) -/
theorem cax_sortedS {zs : List Str} {S : Mu → Prop} (hd : IsL μ x (zs.map D.str) S) (hl : zs.length < 64) (h : ∀ zs' : List Str, zs'.Perm zs → sortedS zs' = true → Φ μ (.lst (zs'.map D.str))) : CaX K (rSortedS K) μ [x] Φ := fun H vs Q m d k => by
  obtain ⟨v, e, a⟩ := denL1 d
  obtain ⟨p, us, e2, sq, b⟩ := isL_sq m hd a
  subst e2
  rw [denStr b] at sq
  exact ⟨p, zs, e, sq, hl, fun zs' p' hp hs hf => k μ _ _ _ (h zs' hp hs) (Grow.new hf) (m.new hf) (by
    unfold Den
    exact ⟨p', _, rfl, ⟨m.free hf, upd_same⟩, strDen zs'⟩)⟩
theorem opx_cat (hx : Real μ x xs) (hy : Real μ y ys) (hl : xs.length + ys.length ≤ 1000000) (h : Φ μ (.lst (xs ++ ys))) : OpX K rCat μ x y Φ := fun H v w Q m a b k => by
  obtain ⟨p, us, e1, q1, b1⟩ := hx.hp m a
  obtain ⟨p2, us2, e2, q2, b2⟩ := hy.hp m b
  subst e1 e2
  exact ⟨p, p2, us, us2, rfl, rfl, q1, q2, by rw [← b1.length, ← b2.length]; exact Nat.le_trans hl (by decide), fun p' hp => k μ _ _ _ h (Grow.new hp) (m.new hp) (by
    unfold Den
    exact ⟨p', _, rfl, ⟨m.free hp, upd_same⟩, DenL.grow (Grow.new hp) _ _ (b1.append b2)⟩)⟩
theorem opx_rep {n : Int} (hx : Real μ x xs) (h1 : -(2 ^ 63) ≤ n) (h2 : n < 2 ^ 63) (hl : xs.length * n.toNat ≤ 1000000) (h : Φ μ (.lst (List.replicate n.toNat xs).flatten)) : OpX K rRep μ x (.int n) Φ := fun H v w Q m a b k => by
  obtain ⟨p, us, e1, q1, b1⟩ := hx.hp m a
  subst e1
  unfold Den at b
  exact ⟨p, n, us, rfl, b, q1, h1, h2, by rw [← b1.length]; exact Nat.le_trans hl (by decide), fun p' hp => k μ _ _ _ h (Grow.new hp) (m.new hp) (by
    unfold Den
    exact ⟨p', _, rfl, ⟨m.free hp, upd_same⟩, DenL.grow (Grow.new hp) _ _ (b1.rep _)⟩)⟩
/-- xs.pop(i) -/
theorem evx_popAt (h : EvX K W X μ ρ to fun μ1 o => ∃ a ds0, o = .at a ∧ μ1 a = some (.lst ds0) ∧ EvX K W X μ1 ρ te fun μ2 i => ∃ ds n k d, i = .int n ∧ μ2 a = some (.lst ds) ∧ (-(2 ^ 63) ≤ n ∧ n < 2 ^ 63) ∧ seqIndex? n ds.length = some k ∧ ds[k]? = some d ∧
    Φ (mput μ2 a (.lst (ds.eraseIdx k))) d) : EvX K W X μ ρ (tBM K "list" rPopAt to (tCons te tNil)) Φ :=
  evx_bmL (h.imp fun μ1 o ⟨a, ds0, e1, h0, h1⟩ => ⟨a, ds0, e1, h0, evl_cons (h1.imp fun μ2 i ⟨ds, n, k', d, e, hp, hn, hk, hd, hq⟩ => evl_nil ⟨ds, hp, fun H vs ws Q m q b d2 k => by
    obtain ⟨w, e2, dw⟩ := denL1 d2
    subst e
    unfold Den at dw
    subst dw e2
    obtain ⟨v, h3, h4⟩ := b.get hd
    exact ⟨a, vs, n, k', v, rfl, rfl, q, hn.1, hn.2, by rw [← b.length]; exact hk, h3, k _ _ _ _ hq (Grow.wr hp) (m.wr hp ⟨_, upd_same, DenL.grow (Grow.wr hp) _ _ (b.eraseIdx k')⟩) (Den.grow (Grow.wr hp) _ _ h4)⟩⟩)⟩)
/-- xs.insert(i, e) -/
theorem evx_ins {ti : TE} (h : EvX K W X μ ρ to fun μ1 o => ∃ a ds0, o = .at a ∧ μ1 a = some (.lst ds0) ∧ EvX K W X μ1 ρ ti fun μ2 i => EvX K W X μ2 ρ te fun μ3 d => ∃ ds n, i = .int n ∧ μ3 a = some (.lst ds) ∧ ds.length ≤ 1000000 ∧ (0 ≤ n ∧ n < 2 ^ 63) ∧
    Φ (mput μ3 a (.lst (ds.take n.toNat ++ [d] ++ ds.drop n.toNat))) .non) : EvX K W X μ ρ (tBM K "list" rInsert to (tCons ti (tCons te tNil))) Φ :=
  evx_bmL (h.imp fun μ1 o ⟨a, ds0, e1, h0, h1⟩ => ⟨a, ds0, e1, h0, evl_cons (h1.imp fun μ2 i h2 => evl_cons (h2.imp fun μ3 d ⟨ds, n, e, hp, hz, hn, hq⟩ => evl_nil ⟨ds, hp, fun H vs ws Q m q b d2 k => by
    obtain ⟨w0, w, e2, dw0, dw⟩ := denL2 d2
    subst e
    unfold Den at dw0
    subst dw0 e2
    exact ⟨a, vs, n, w, rfl, rfl, q, by rw [← b.length]; exact Nat.lt_of_le_of_lt hz (by decide), hn.1, hn.2, k _ _ _ _ hq (Grow.wr hp) (m.wr hp ⟨_, upd_same, (((DenL.grow (Grow.wr hp) _ _ b).take _).append (DenL.cons (Den.grow (Grow.wr hp) _ _ dw) DenL.nil)).append ((DenL.grow (Grow.wr hp) _ _ b).drop _)⟩) (by unfold Den; rfl)⟩⟩))⟩)
/-- xs.extend(ys) -/
theorem evx_ext (h : EvX K W X μ ρ to fun μ1 o => ∃ a ds0, o = .at a ∧ μ1 a = some (.lst ds0) ∧ EvX K W X μ1 ρ te fun μ2 y => ∃ ds zs, μ2 a = some (.lst ds) ∧ Real μ2 y zs ∧ ds.length + zs.length ≤ 1000000 ∧ Φ (mput μ2 a (.lst (ds ++ zs))) .non) :
    EvX K W X μ ρ (tBM K "list" rExtend to (tCons te tNil)) Φ :=
  evx_bmL (h.imp fun μ1 o ⟨a, ds0, e1, h0, h1⟩ => ⟨a, ds0, e1, h0, evl_cons (h1.imp fun μ2 y ⟨ds, zs, hp, hr, hz, hq⟩ => evl_nil ⟨ds, hp, fun H vs ws Q m q b d2 k => by
    obtain ⟨w, e2, dw⟩ := denL1 d2
    obtain ⟨p, us, e3, q3, b3⟩ := hr.hp m dw
    subst e3 e2
    exact ⟨a, p, vs, us, rfl, rfl, q, q3, by rw [← b.length, ← b3.length]; exact Nat.le_trans hz (by decide), k _ _ _ _ hq (Grow.wr hp) (m.wr hp ⟨_, upd_same, (DenL.grow (Grow.wr hp) _ _ b).append (DenL.grow (Grow.wr hp) _ _ b3)⟩) (by unfold Den; rfl)⟩⟩)⟩)
/-- xs.reverse() -/
theorem evx_rev (h : EvX K W X μ ρ to fun μ1 o => ∃ a ds, o = .at a ∧ μ1 a = some (.lst ds) ∧ Φ (mput μ1 a (.lst ds.reverse)) .non) : EvX K W X μ ρ (tBM0 K "list" rReverse to) Φ :=
  evx_bmL0 (h.imp fun μ1 o ⟨a, ds, e1, hp, hq⟩ => ⟨a, ds, e1, hp, fun H vs Q m q b k =>
    ⟨a, vs, rfl, rfl, q, k _ _ _ _ hq (Grow.wr hp) (m.wr hp ⟨_, upd_same, DenL.grow (Grow.wr hp) _ _ b.reverse⟩) (by unfold Den; rfl)⟩⟩)
/-- xs.clear() -/
theorem evx_clear (h : EvX K W X μ ρ to fun μ1 o => ∃ a ds, o = .at a ∧ μ1 a = some (.lst ds) ∧ Φ (mput μ1 a (.lst [])) .non) : EvX K W X μ ρ (tBM0 K "list" rClear to) Φ :=
  evx_bmL0 (h.imp fun μ1 o ⟨a, ds, e1, hp, hq⟩ => ⟨a, ds, e1, hp, fun H vs Q m q b k =>
    ⟨a, vs, rfl, rfl, q, k _ _ _ _ hq (Grow.wr hp) (m.wr hp ⟨_, upd_same, DenL.nil⟩) (by unfold Den; rfl)⟩⟩)
/-! ### a sign in a text; texts in order -/
abbrev rInSign : R2 := fun x y H Q => ∃ (c : Nat) (z : Str), x = .str ⟨#[c]⟩ ∧ y = .str z ∧ Q (.bl (decide (c ∈ z.cps.toList))) H
abbrev rNotInSign : R2 := fun x y H Q => ∃ (c : Nat) (z : Str), x = .str ⟨#[c]⟩ ∧ y = .str z ∧ Q (.bl (!decide (c ∈ z.cps.toList))) H
theorem opx_inSign {c : Nat} {z : Str} (h : Φ μ (.bl (decide (c ∈ z.cps.toList)))) : OpX K rInSign μ (.str ⟨#[c]⟩) (.str z) Φ := fun H v w Q m a b k => by
  unfold Den at a b
  exact ⟨c, z, a, b, k μ _ _ H h (Grow.refl _ _) m (by unfold Den; rfl)⟩
theorem opx_notInSign {c : Nat} {z : Str} (h : Φ μ (.bl (!decide (c ∈ z.cps.toList)))) : OpX K rNotInSign μ (.str ⟨#[c]⟩) (.str z) Φ := fun H v w Q m a b k => by
  unfold Den at a b
  exact ⟨c, z, a, b, k μ _ _ H h (Grow.refl _ _) m (by unfold Den; rfl)⟩
abbrev rLeS : R2 := fun x y H Q => ∃ i j, x = .str i ∧ y = .str j ∧ Q (.bl (!decide (j.cps.toList < i.cps.toList))) H
theorem opx_leS {i j : Str} (h : Φ μ (.bl (!decide (j.cps.toList < i.cps.toList)))) : OpX K rLeS μ (.str i) (.str j) Φ := fun H v w Q m a b k => by
  unfold Den at a b
  exact ⟨i, j, a, b, k μ _ _ H h (Grow.refl _ _) m (by unfold Den; rfl)⟩
end
/-! ### what stays, but for a deck -/
/-- what stands stays, but for the deck a with its cells g -/
def Keep (a g : Addr) (μ μ' : Mu) : Prop := ∀ b o, b ≠ a → b ≠ g → μ b = some o → μ' b = some o
theorem Keep.refl (a g : Addr) (μ : Mu) : Keep a g μ μ := fun _ _ _ _ h => h
theorem Keep.trans {a g : Addr} {μ μ1 μ2 : Mu} (h : Keep a g μ μ1) (k : Keep a g μ1 μ2) : Keep a g μ μ2 := fun b o h1 h2 e => k b o h1 h2 (h b o h1 h2 e)
theorem But.keep {a g : Addr} {μ μ' : Mu} (h : But a g μ μ') : Keep a g μ μ' := fun b o h1 h2 e => (h b h1 h2).trans e
theorem Keep.new {a g p : Addr} {μ μ' : Mu} {o : MO} (h : Keep a g μ μ') (hp : μ p = none) : Keep a g μ (mput μ' p o) := fun b o' h1 h2 e => by
  have : b ≠ p := fun z => by rw [z, hp] at e; cases e
  rw [mput_ne this]
  exact h b o' h1 h2 e
theorem Keep.put {a g p : Addr} {μ : Mu} {o : MO} (hp : μ p = none) : Keep a g μ (mput μ p o) := (Keep.refl a g μ).new hp
theorem Deck.na {a g p : Addr} {c : Int} {μ : Mu} (h : Deck a g c μ) (hp : μ p = none) : p ≠ a ∧ p ≠ g := by
  obtain ⟨gs, o, m, k, d⟩ := h
  exact ⟨fun z => (by rw [z, d.ha] at hp; exact nomatch hp), fun z => (by rw [z, d.hg] at hp; exact nomatch hp)⟩
theorem Deck.off {a g p : Addr} {c : Int} {μ μ' : Mu} (h : Deck a g c μ) (h1 : p ≠ a) (h2 : p ≠ g) (hb : ∀ b, b ≠ p → μ' b = μ b) : Deck a g c μ' := by
  obtain ⟨gs, o, m, k, d⟩ := h
  exact ⟨gs, o, m, k, d.ne, by rw [hb _ (Ne.symm h1)]; exact d.ha, by rw [hb _ (Ne.symm h2)]; exact d.hg, d.gs, d.o0, d.o1, d.m0, d.m1, d.k0, d.k1⟩
theorem Deck.cut {a g p : Addr} {c : Int} {μ : Mu} (h : Deck a g c μ) (h1 : p ≠ a) (h2 : p ≠ g) : Deck a g c (mcut μ p) := h.off h1 h2 fun b hb => mcut_ne hb
theorem Keep.off {a g p : Addr} {μ μ1 μ' : Mu} (h : Keep a g μ μ1) (hp : μ p = none) (hb : ∀ b, b ≠ p → μ' b = μ1 b) : Keep a g μ μ' := fun b o h1 h2 e => by
  have : b ≠ p := fun z => by rw [z, hp] at e; cases e
  rw [hb b this]
  exact h b o h1 h2 e
/-! ### comprehensions -/
section
variable {K : PySem.W.Frag} {W : WX} {X : XD} {μ : Mu} {ρ : Ro} {Φ : DP} {te : TE} {tt : TT} {g : TG} {wi : TI}
/-- a comprehension whose turns change the store: I of the turn, the store and what is found; the list under way is at Dl -/
theorem evx_lcI {vs : List Nat} (h : ItX K W X μ ρ wi fun μ1 ds S => (ds.length ≤ 1000000 ∧ ∀ m, S m) ∧ ∃ I : Nat → Mu → List D → Prop, I 0 μ1 [] ∧
    (∀ Dl, μ1 Dl = none → ∀ i acc μ' μ'', (∀ b, b ≠ Dl → μ'' b = μ' b) → I i μ' acc → I i μ'' acc) ∧
    (∀ Dl, μ1 Dl = none → ∀ i d μ' acc, ds[i]? = some d → acc.length ≤ i → μ' Dl = some (.lst acc) → I i μ' acc → TcX K W X vs μ' (wipeD ρ vs) g d fun μ2 ρ2 =>
      EvB K W X μ2 ρ2 tt fun μ3 b => μ3 Dl = some (.lst acc) ∧ if b = true then EvX K W X μ3 ρ2 te fun μ4 y => μ4 Dl = some (.lst acc) ∧ I (i + 1) μ4 (acc ++ [y]) else I (i + 1) μ3 acc) ∧
    ((∀ μ' acc, acc.length ≤ ds.length → I ds.length μ' acc → Φ μ' (.lst acc)) ∨ (∀ p μ' acc, μ1 p = none → acc.length ≤ ds.length → μ' p = some (.lst acc) → I ds.length μ' acc → Φ μ' (.at p)))) : EvX K W X μ ρ (tLc wi g tt te vs) Φ := by
  refine evx_lc fun σ H R m e l k => h σ H R m e l fun μ1 ds S J H1 ⟨⟨hl, hS⟩, I, h0, hst, hstep, hend⟩ g1 m1 ok => k μ1 ds S J H1 (fun Dl hD => ?_) g1 m1 ok
  refine ⟨fun i μ' acc => acc.length ≤ i ∧ I i μ' acc, ⟨Nat.le_refl _, hst Dl hD 0 [] μ1 _ (fun b hb => mput_ne hb) h0⟩, ?_, ?_, ?_⟩
  · rintro i μ' acc hi _ ⟨ha, _⟩
    exact ⟨Nat.le_trans ha (Nat.le_trans hi hl), hS _⟩
  · rintro i d μ' acc hi hD' ⟨ha, hI⟩
    intro σ H v Q m e dd k
    refine hstep Dl hD i d μ' acc hi ha hD' hI σ H v Q m e dd fun ρ2 σ2 q2 e2 hw => k ρ2 σ2 ?_ e2 hw
    refine q2.imp fun μ3 b ⟨r1, r2⟩ => ⟨r1, ?_⟩
    cases b with
    | false =>
      rw [if_neg (by decide)] at r2 ⊢
      exact ⟨Nat.le_succ_of_le ha, r2⟩
    | true =>
      rw [if_pos rfl] at r2 ⊢
      refine r2.imp fun μ4 y ⟨s1, s2⟩ => ⟨s1, ?_, hst Dl hD _ _ μ4 _ (fun b hb => mput_ne hb) s2⟩
      rw [List.length_append, List.length_singleton]
      omega
  · rintro μ' acc hD' ⟨ha, hI⟩
    rcases hend with he | he
    · exact .inl (he _ _ ha (hst Dl hD _ _ μ' _ (fun b hb => mcut_ne hb) hI))
    · exact .inr (he Dl _ _ hD ha hD' hI)
/-- the same where a deck alone is drawn from: st cards a turn -/
theorem evx_lcDk {vs : List Nat} {a ga : Addr} (h : ItX K W X μ ρ wi fun μ1 ds S => (ds.length ≤ 1000000 ∧ ∀ m, S m) ∧ ∃ (c st : Int) (R : Nat → List D → Prop), Deck a ga c μ1 ∧ R 0 [] ∧
    (∀ i d μ' acc, ds[i]? = some d → acc.length ≤ i → R i acc → Deck a ga (c + st * i) μ' → Keep a ga μ1 μ' → TcX K W X vs μ' (wipeD ρ vs) g d fun μ2 ρ2 =>
      EvB K W X μ2 ρ2 tt fun μ3 b => if b = true then Keep a ga μ' μ3 ∧ EvX K W X μ3 ρ2 te fun μ4 y => Keep a ga μ' μ4 ∧ Deck a ga (c + st * (i + 1)) μ4 ∧ R (i + 1) (acc ++ [y]) else Keep a ga μ' μ3 ∧ Deck a ga (c + st * (i + 1)) μ3 ∧ R (i + 1) acc) ∧
    ∀ μ' acc, acc.length ≤ ds.length → R ds.length acc → Deck a ga (c + st * ds.length) μ' → Keep a ga μ1 μ' → Φ μ' (.lst acc)) : EvX K W X μ ρ (tLc wi g tt te vs) Φ := by
  refine evx_lcI fun σ H R m e l k => h σ H R m e l fun μ1 ds S J H1 ⟨hl, c, st, R, hd, h0, hstep, hend⟩ g1 m1 ok => k μ1 ds S J H1 ⟨hl, ?_⟩ g1 m1 ok
  refine ⟨fun i μ' acc => Deck a ga (c + st * i) μ' ∧ Keep a ga μ1 μ' ∧ R i acc, ⟨hd.mono (by simp), Keep.refl _ _ _, h0⟩, ?_, ?_, ?_⟩
  · rintro Dl hD i acc μ' μ'' hb ⟨h1, h2, h3⟩
    have hn := hd.na hD
    exact ⟨h1.off hn.1 hn.2 hb, h2.off hD hb, h3⟩
  · rintro Dl hD i d μ' acc hi ha hDl ⟨h1, h2, h3⟩
    have hn := hd.na hD
    intro σ H v Q m e dd k
    refine hstep i d μ' acc hi ha h3 h1 h2 σ H v Q m e dd fun ρ2 σ2 q2 e2 hw => k ρ2 σ2 ?_ e2 hw
    refine q2.imp fun μ3 b r => ?_
    cases b with
    | false =>
      rw [if_neg (by decide)] at r
      refine ⟨r.1 Dl _ hn.1 hn.2 hDl, ?_⟩
      rw [if_neg (by decide)]
      exact ⟨r.2.1.mono (by rw [Int.natCast_add]; exact Int.le_refl _), h2.trans r.1, r.2.2⟩
    | true =>
      rw [if_pos rfl] at r
      refine ⟨r.1 Dl _ hn.1 hn.2 hDl, ?_⟩
      rw [if_pos rfl]
      refine r.2.imp fun μ4 y ⟨s1, s2, s3⟩ => ⟨s1 Dl _ hn.1 hn.2 hDl, s2.mono (by rw [Int.natCast_add]; exact Int.le_refl _), h2.trans s1, s3⟩
  · exact .inl fun μ' acc ha ⟨h1, h2, h3⟩ => hend μ' acc ha h3 h1 h2
/-- a comprehension whose turns change nothing, the list found kept as one that will change -/
theorem evx_lcPM {vs : List Nat} (h : ItX K W X μ ρ wi fun μ1 ds S => (ds.length ≤ 1000000 ∧ ∀ m : Mu, (∀ b o, μ1 b = some o → m b = some o) → S m) ∧ ∃ (p : D → Bool) (f : D → D),
    (∀ d, d ∈ ds → ∀ μ' : Mu, (∀ b o, μ1 b = some o → μ' b = some o) → TcX K W X vs μ' (wipeD ρ vs) g d fun μ2 ρ2 => EvB K W X μ2 ρ2 tt fun μ3 b => μ3 = μ2 ∧ b = p d ∧ (p d = true → EvX K W X μ3 ρ2 te fun μ4 y => μ4 = μ3 ∧ y = f d)) ∧
    ∀ Dl, μ1 Dl = none → Φ (mput μ1 Dl (.lst ((ds.filter p).map f))) (.at Dl)) : EvX K W X μ ρ (tLc wi g tt te vs) Φ := by
  refine evx_lc fun σ H R m e l k => h σ H R m e l fun μ1 ds S J H1 ⟨⟨hl, hS⟩, p, f, hp, hq⟩ g1 m1 ok => k μ1 ds S J H1 (fun Dl hD => ?_) g1 m1 ok
  have up : ∀ μ' : Mu, (∀ b, b ≠ Dl → μ' b = μ1 b) → ∀ b o, μ1 b = some o → μ' b = some o := fun μ' hμ b o e => by
    rw [hμ b (fun z => by rw [z, hD] at e; cases e)]; exact e
  refine ⟨fun i μ' acc => acc = ((ds.take i).filter p).map f ∧ ∀ b, b ≠ Dl → μ' b = μ1 b, ⟨by simp, fun b hb => mput_ne hb⟩, ?_, ?_, ?_⟩
  · rintro i μ' acc hi _ ⟨rfl, hμ⟩
    refine ⟨?_, hS _ (up μ' hμ)⟩
    rw [List.length_map]
    refine Nat.le_trans (List.length_filter_le _ _) ?_
    rw [List.length_take]
    omega
  · rintro i d μ' acc hi hD' ⟨rfl, hμ⟩
    have hm : d ∈ ds := List.mem_of_getElem? hi
    have e1 : ds.take (i + 1) = ds.take i ++ [d] := by
      rw [List.take_succ, hi]; rfl
    intro σ H v Q m e dd k
    refine hp d hm μ' (up μ' hμ) σ H v Q m e dd fun ρ2 σ2 q2 e2 hw => k ρ2 σ2 ?_ e2 hw
    refine q2.imp fun μ3 b ⟨r1, r2, r3⟩ => ?_
    subst r1 r2
    refine ⟨hD', ?_⟩
    cases hpd : p d with
    | false =>
      rw [if_neg (by decide)]
      refine ⟨?_, hμ⟩
      rw [e1, List.filter_append, List.filter_cons, hpd]
      simp
    | true =>
      rw [if_pos rfl]
      refine (r3 hpd).imp fun μ4 y ⟨s1, s2⟩ => ?_
      subst s1 s2
      refine ⟨hD', ?_, fun b hb => by rw [mput_ne hb]; exact hμ b hb⟩
      rw [e1, List.filter_append, List.filter_cons, hpd]
      simp
  · rintro μ' acc hD' ⟨rfl, hμ⟩
    right
    have : μ' = mput μ1 Dl (.lst ((ds.filter p).map f)) := by
      funext b
      by_cases hb : b = Dl
      · subst hb; rw [mput_same, hD', List.take_length]
      · rw [mput_ne hb, hμ b hb]
    rw [this]
    exact hq Dl hD
end
/-! ### terms within a comprehension's block -/
theorem pe_via {X : Cx} {e : Expr} {te te' : TE} (h : PE X e te') (hk : te' = te) : PE X e te := hk ▸ h
theorem pg_via {X : Cx} {e : Expr} {g g' : TG} (h : PG X e g') (hk : g' = g) : PG X e g := hk ▸ h
theorem pts_via {X : Cx} {es : List Expr} {tt tt' : TT} (h : PTs X es tt') (hk : tt' = tt) : PTs X es tt := hk ▸ h
theorem op_eqBk {X : Cx} {s : Shared} {H : Hp} {sc : Scope} {ce : Env} {fp : List Addr} (hu : X.A.units + 64 < cLine) : OpR (X.blk s H sc ce fp) (compareOp .Eq) (rEqU X.K) := op_eqU (X := X.blk s H sc ce fp) hu
theorem op_neBk {X : Cx} {s : Shared} {H : Hp} {sc : Scope} {ce : Env} {fp : List Addr} (hu : X.A.units + 64 < cLine) : OpR (X.blk s H sc ce fp) (compareOp .NotEq) (rNeU X.K) := op_neU (X := X.blk s H sc ce fp) hu
/-! ### math.lcm of great numbers -/
def rLcm : List V → Hp → VK → Prop := fun vs H Q => ∃ a b : Int, vs = [.int a, .int b] ∧ a.natAbs < 2 ^ 6000 ∧ b.natAbs < 2 ^ 6000 ∧ Q (.int ((Nat.lcm a.natAbs b.natAbs : Nat) : Int)) H
theorem lcm_mul_lt {m n : Nat} (hm : m < 2 ^ 6000) (hn : n < 2 ^ 6000) : m.lcm n < 2 ^ 12000 := by
  have h1 : m.lcm n ≤ m * n := Nat.div_le_self _ _
  have h2 : m * n < 2 ^ 6000 * 2 ^ 6000 := Nat.mul_lt_mul'' hm hn
  rw [← Nat.pow_add] at h2
  exact Nat.lt_of_le_of_lt h1 h2
theorem log_lt {m n : Nat} (h : m < 2 ^ (n + 1)) : m.log2 ≤ n := by
  by_cases h0 : m = 0
  · subst h0; exact Nat.zero_le _
  · have := (Nat.log2_lt h0).mpr h
    omega
theorem cr_lcm {X : Cx} : CallR X (.builtin "math.lcm") rLcm := by
  intro pins s σ H vs us Q I r h
  obtain ⟨a, b, rfl, ha, hb, q⟩ := h
  obtain ⟨t, u, rfl⟩ := Vals.int2 r
  have hm1 : max 1 a.natAbs < 2 ^ (5999 + 1) := Nat.max_lt.mpr ⟨Nat.one_lt_two_pow (by decide), ha⟩
  have hm2 : max a.natAbs b.natAbs < 2 ^ (5999 + 1) := Nat.max_lt.mpr ⟨ha, hb⟩
  have e1 : Nat.lcm 1 a.natAbs = a.natAbs := by simp [Nat.lcm]
  have hz : (a.natAbs.lcm b.natAbs).log2 ≤ 11999 := log_lt (lcm_mul_lt ha hb)
  have l1 := log_lt hm1
  have l2 := log_lt hm2
  refine call_function_meets PySem.W.MGF.kind_lcm PySem.W.MGF.plain_lcm PySem.W.MGF.entry_lcm (PySem.W.MGF.args_lcm _ _) (PySem.W.mg_run_lcm a t b u (by omega) (by omega) ?_).meets ?_
  · rw [e1]
    show (a.natAbs.lcm b.natAbs).log2 < bitsLine
    rw [bitsLine_eq]
    omega
  · rw [e1]
    exact ⟨.int _, H, I.tok _, ⟨_, rfl⟩, q⟩
theorem cax_lcm {K : PySem.W.Frag} {μ : Mu} {i j : Int} {Φ : DP} (hi : i.natAbs < 2 ^ 6000) (hj : j.natAbs < 2 ^ 6000) (h : Φ μ (.int ((Nat.lcm i.natAbs j.natAbs : Nat) : Int))) : CaX K rLcm μ [.int i, .int j] Φ := fun H vs Q m d k => by
  obtain ⟨v, w, e, a, b⟩ := denL2 d
  unfold Den at a b
  subst a b
  exact ⟨i, j, e, hi, hj, k μ _ _ H h (Grow.refl _ _) m (by unfold Den; rfl)⟩
/-! ### plain data, at most n deep: what == may compare -/
def Nice (n : Nat) (d : D) : Prop := plainD d = true ∧ (toP d).canLay0 = true ∧ (toP d).depth ≤ n
theorem Nice.mono {n m : Nat} {d : D} (h : Nice n d) (hm : n ≤ m) : Nice m d := ⟨h.1, h.2.1, Nat.le_trans h.2.2 hm⟩
theorem Nice.shaped {n : Nat} {d : D} (h : Nice n d) (hn : n ≤ 64) : SeqAt.shaped (toP d) = true := by
  unfold SeqAt.shaped
  rw [h.2.1, Bool.true_and]
  exact decide_eq_true (Nat.le_trans h.2.2 hn)
theorem nice_int (n : Nat) (i : Int) : Nice n (.int i) := ⟨rfl, rfl, Nat.zero_le _⟩
theorem nice_bl (n : Nat) (b : Bool) : Nice n (.bl b) := ⟨rfl, rfl, Nat.zero_le _⟩
theorem nice_non (n : Nat) : Nice n .non := ⟨rfl, rfl, Nat.zero_le _⟩
theorem nice_str (n : Nat) {z : Str} (h : (PyData.str z).canLay0 = true) : Nice n (.str z) := ⟨by
  unfold plainD SeqAt.shaped
  rw [h]; rfl, h, Nat.zero_le _⟩
theorem nices {n : Nat} : ∀ {ds : List D}, (∀ d ∈ ds, Nice n d) → plainDs ds = true ∧ PyData.canLayAll0 (toPs ds) = true ∧ PyData.depthAll (toPs ds) ≤ n
  | [], _ => ⟨rfl, rfl, Nat.zero_le _⟩
  | d :: ds, h => by
    obtain ⟨a1, a2, a3⟩ := h d (List.mem_cons_self ..)
    obtain ⟨b1, b2, b3⟩ := nices fun e he => h e (List.mem_cons_of_mem _ he)
    refine ⟨?_, ?_, ?_⟩
    · unfold plainDs; rw [a1, b1]; rfl
    · show (PyData.canLay0 (toP d) && PyData.canLayAll0 (toPs ds)) = true
      rw [a2, b2]; rfl
    · show max (PyData.depth (toP d)) (PyData.depthAll (toPs ds)) ≤ n
      exact Nat.max_le.mpr ⟨a3, b3⟩
theorem nice_tup {n : Nat} {ds : List D} (h : ∀ d ∈ ds, Nice n d) : Nice (n + 1) (.tup ds) := by
  obtain ⟨b1, b2, b3⟩ := nices h
  refine ⟨by unfold plainD; exact b1, b2, ?_⟩
  show PyData.depthAll (toPs ds) + 1 ≤ n + 1
  omega
theorem nice_lst {n : Nat} {ds : List D} (h : ∀ d ∈ ds, Nice n d) : Nice (n + 1) (.lst ds) := by
  obtain ⟨b1, b2, b3⟩ := nices h
  refine ⟨by unfold plainD; exact b1, b2, ?_⟩
  show PyData.depthAll (toPs ds) + 1 ≤ n + 1
  omega
section
variable {K : PySem.W.Frag} {μ : Mu} {x y : D} {Φ : DP} {ds es : List D}
/-- == and != of nice data -/
theorem opx_eqN (hx : Nice 64 (seeD μ x)) (hy : Nice 64 (seeD μ y)) (h : Φ μ (.bl (eqD (seeD μ x) (seeD μ y)))) : OpX K (rOr rEq (rEqD K)) μ x y Φ :=
  opx_r (opx_eqD hx.1 (hx.shaped (Nat.le_refl _)) hy.1 (hy.shaped (Nat.le_refl _)) h)
theorem opx_neN (hx : Nice 64 (seeD μ x)) (hy : Nice 64 (seeD μ y)) (h : Φ μ (.bl (!eqD (seeD μ x) (seeD μ y)))) : OpX K (rOr rNe (rNeD K)) μ x y Φ :=
  opx_r (opx_neD hx.1 (hx.shaped (Nat.le_refl _)) hy.1 (hy.shaped (Nat.le_refl _)) h)
theorem eqD_nil' (ds : List D) : eqD (.lst ds) (.lst []) = ds.isEmpty := by
  cases ds with
  | nil => rfl
  | cons d ds => rfl
/-- xs != [] -/
theorem opx_neNil (hr : Real μ x ds) (hd : ∀ d ∈ ds, Nice 60 d) (h : Φ μ (.bl (!ds.isEmpty))) : OpX K (rOr rNe (rNeD K)) μ x (.lst []) Φ := by
  have e : seeD μ x = .lst ds := by
    rcases hr with rfl | ⟨a, rfl, ha⟩
    · rfl
    · unfold seeD; dsimp only; rw [ha]
  refine opx_neN (by rw [e]; exact (nice_lst hd).mono (by decide)) ⟨rfl, rfl, by show 0 + 1 ≤ 64; decide⟩ ?_
  rw [e]
  show Φ μ (.bl (!eqD (.lst ds) (.lst [])))
  rw [eqD_nil']
  exact h
end
/-- an item at a drawn place -/
theorem pick_any : ∀ {ds : List D} {x : Int}, 0 ≤ x → x < ds.length → ∃ d, d ∈ ds ∧ atI ds x = some d := fun {ds x} h0 h1 => by
  have hk : x.toNat < ds.length := by omega
  refine ⟨ds[x.toNat], List.getElem_mem hk, ?_⟩
  unfold atI ixN
  rw [if_pos h0, if_pos h1]
  exact List.getElem?_eq_getElem hk
section
variable {K : PySem.W.Frag} {W : WX} {X : XD} {μ : Mu} {ρ : Ro} {Φ : DP} {ta tb tc : TE} {r r' : R2}
/-- a < b < c -/
theorem evx_chain (h : EvX K W X μ ρ ta fun μ1 x => EvX K W X μ1 ρ tb fun μ2 y => OpX K r μ2 x y fun μ3 d => ∃ b, d = .bl b ∧ if b = true then EvX K W X μ3 ρ tc fun μ4 z => OpX K r' μ4 y z Φ else Φ μ3 (.bl false)) : EvX K W X μ ρ (tChain r r' ta tb tc) Φ := fun σ H Q m e l k =>
  h σ H _ m e l fun μ1 x v H1 h1 g1 m1 d1 => h1 σ H1 _ m1 (e.grow g1) (l.grow g1) fun μ2 y u H2 h2 g2 m2 d2 =>
    h2 H2 v u _ m2 (Den.grow g2 _ _ d1) d2 fun μ3 d w H3 ⟨b, e3, h3⟩ g3 m3 d3 => by
      subst e3
      unfold Den at d3
      refine ⟨b, d3, ?_⟩
      have gg := (g1.trans g2).trans g3
      cases b with
      | false =>
        rw [if_neg (by decide)] at h3
        exact k _ _ _ _ h3 gg m3 (by unfold Den; rfl)
      | true =>
        rw [if_pos rfl] at h3
        exact h3 σ H3 _ m3 (e.grow gg) (l.grow gg) fun μ4 z w' H4 h4 g4 m4 d4 => h4 H4 u w' Q m4 (Den.grow g4 _ _ (Den.grow g3 _ _ d2)) d4 fun μ' d' w'' H' p g => k μ' d' w'' H' p ((gg.trans g4).trans g)
end
/-- a, b, .. = a list -/
theorem tgx_lst {K : PySem.W.Frag} {W : WX} {X : XD} {μ : Mu} {ρ : Ro} {gs : TGs} {n : Nat} {d : D} {ds : List D} {S : Mu → Prop} {Φ : Mu → Ro → Prop} (hd : IsL μ d ds S) (hn : ds.length = n) (h : TgsX K W X μ ρ gs ds Φ) : TgX K W X μ ρ (gLst K n gs) d Φ := fun σ H v Q m e l dd k => by
  obtain ⟨p, vs, e1, sq, b⟩ := isL_sq m hd dd
  exact ⟨p, vs, e1, sq, by rw [← b.length, hn], h σ H vs Q m e l b k⟩
/-! ### a text backwards -/
def revT (z : Str) : Str := ⟨((Builtin.Str.strSliceIndices none none (-1) z.length).filterMap (z.cps[·]?)).toArray⟩
theorem revT_len (z : Str) : (revT z).length ≤ z.length := by
  show ((Builtin.Str.strSliceIndices none none (-1) z.length).filterMap (z.cps[·]?)).toArray.size ≤ _
  rw [List.size_toArray]
  exact Nat.le_trans (List.length_filterMap_le _ _) (sliceIndicesBy_le none none (-1) (by decide) z.length)
theorem revT_mem (z : Str) : ∀ c ∈ (revT z).cps.toList, c ∈ z.cps.toList := fun c hc => by
  have hc' : c ∈ ((Builtin.Str.strSliceIndices none none (-1) z.length).filterMap (z.cps[·]?)) := by
    have : (revT z).cps.toList = ((Builtin.Str.strSliceIndices none none (-1) z.length).filterMap (z.cps[·]?)) := List.toList_toArray ..
    rw [this] at hc; exact hc
  obtain ⟨i, _, hi⟩ := List.mem_filterMap.mp hc'
  rw [← Array.getElem?_toList] at hi
  exact List.mem_of_getElem? hi
def tRevT (te : TE) : TE := fun σ H Q => te σ H fun x H1 => ∃ z : Str, x = .str z ∧ z.length ≤ 1000000 ∧ Q (.str (revT z)) H1
theorem pe_revT {X : Cx} {e : Expr} {te : TE} {k : Nat} {p1 p2 p3 pos : Pos} (he : PE X e te) : PE X (.Subscript e (.Slice none none (some (.UnaryOp .USub (.Constant (.int 1) k p1) p2)) p3) pos) (tRevT te) := by
  refine ⟨fun pins s σ H Q I h => ?_⟩
  refine Subscript_ (thn (he.run pins s σ H _ I h) fun v s1 ⟨x, H1, I1, r1, q1⟩ => ?_)
  obtain ⟨z, ex, hz, q⟩ := q1
  subst ex
  obtain ⟨t, rfl⟩ := r1
  have hst : PO X (some (.UnaryOp .USub (.Constant (.int 1) k p1) p2)) (tPart (tUn (rU fun i => .int (-i)) (tC (.int 1)))) := po_some (pe_un un_neg pe_int)
  refine wpAny_Slice (thn (po_none.run pins s1 σ H1 (fun o H2 => o = none ∧ H2 = H1) I1 ⟨rfl, rfl⟩) fun vl s2 ⟨l, H2, I2, pl, el, e2⟩ => ?_)
  subst el e2
  refine thn (po_none.run pins s2 σ H2 (fun o H3 => o = none ∧ H3 = H2) I2 ⟨rfl, rfl⟩) fun vu s3 ⟨u, H3, I3, pu, eu, e3⟩ => ?_
  subst eu e3
  refine thn (hst.run pins s3 σ H3 (fun o H4 => o = some (-1) ∧ H4 = H3) I3 ⟨1, rfl, -1, rfl, rfl, rfl⟩) fun vs s4 ⟨o, H4, I4, ps, eo, e4⟩ => ?_
  subst eo e4
  have I5 : Inv X pins σ H4 { s4 with heap := s4.heap.push { cls := .type "slice", data := .fields #[vl, vu, vs] } } := I4.kept (t' := s4.toks) fun b ob q => Heap.get?_push_of_some _ q
  obtain ⟨l', rfl, hl'⟩ := IsPart.raw pl
  obtain ⟨u', rfl, hu'⟩ := IsPart.raw pu
  obtain ⟨o', rfl, ho'⟩ := IsPart.raw ps
  have hl2 : l' = none := by cases l' with | none => rfl | some _ => exact nomatch hl'
  have hu2 : u' = none := by cases u' with | none => rfl | some _ => exact nomatch hu'
  obtain ⟨tk, rfl⟩ : ∃ tk, o' = some (-1, tk) := by
    cases o' with
    | none => exact nomatch ho'
    | some q => exact ⟨q.2, by obtain ⟨a, b⟩ := q; simp at ho'; rw [← ho']⟩
  subst hl2 hu2
  refine tail_any (ops := [.str z t, .ref s4.heap.objs.size]) (typeIs_str _ _ _) (F.slot_str_getitem.lookup) ?_ (by with_unfolding_all rfl)
  refine wpAny_getItem_str_slice (l := none) (u := none) (st := some (-1, tk)) ⟨_, Heap.get?_push_size _ rfl, rfl, rfl⟩ rfl ?_
  show Made.post (if ((-1 : Int) == 1 && (Builtin.Str.strSliceIndices none none (-1) z.length).length == z.length) = true then Made.val (.str z t)
    else Made.str (revT z)) (EP X pins σ Q) _
  rw [if_neg (by simp)]
  exact ⟨Nat.le_trans (revT_len z) (Nat.le_trans hz (by decide)), .str _, _, I5.tok _, ⟨_, rfl⟩, q⟩
theorem evx_revT {K : PySem.W.Frag} {W : WX} {X : XD} {μ : Mu} {ρ : Ro} {te : TE} {Φ : DP} (h : EvX K W X μ ρ te fun μ1 d => ∃ z, d = .str z ∧ z.length ≤ 1000000 ∧ Φ μ1 (.str (revT z))) : EvX K W X μ ρ (tRevT te) Φ := fun σ H Q m e l k =>
  h σ H _ m e l fun μ1 d v H1 ⟨z, e1, hz, hq⟩ g1 m1 d1 => by
    subst e1
    unfold Den at d1
    exact ⟨z, d1, hz, k μ1 _ _ H1 hq g1 m1 (by unfold Den; rfl)⟩
abbrev rUpper : V → List V → Hp → VK → Prop := fun x xs H Q => ∃ a, x = .str a ∧ xs = [] ∧ a.length ≤ 5592405 ∧ Q (.str (Txt.upper a)) H
/-- z.upper() -/
theorem evx_upper {K : PySem.W.Frag} {W : WX} {X : XD} {μ : Mu} {ρ : Ro} {te : TE} {Φ : DP} (h : EvX K W X μ ρ te fun μ1 d => ∃ z, d = .str z ∧ z.length ≤ 1000000 ∧ Φ μ1 (.str (Txt.upper z))) : EvX K W X μ ρ (tM0 rUpper te) Φ := fun σ H Q m e l k =>
  h σ H _ m e l fun μ1 d v H1 ⟨z, e1, hz, hq⟩ g1 m1 d1 => by
    subst e1
    unfold Den at d1
    exact ⟨⟨z, d1⟩, z, d1, rfl, Nat.le_trans hz (by decide), k μ1 _ _ H1 hq g1 m1 (by unfold Den; rfl)⟩
/-! ### objects of own classes: what they hold -/
section
variable {K : PySem.W.Frag} {W : WX} {X : XD} {μ : Mu} {H : Hp} {ρ : Ro} {Φ : DP} {ta tv : TE} {E : ED}
theorem den_field {f : Str} {d : D} : ∀ {fs : List Str} {ds : List D} {vs : List V}, DenL K μ H ds vs → (fs.zip ds).lookup f = some d → ∃ v, (fs.zip vs).lookup f = some v ∧ Den K μ H d v
  | [], ds, vs, _, h => by rw [List.zip_nil_left] at h; exact nomatch h
  | g :: fs, [], vs, _, h => by rw [List.zip_nil_right] at h; exact nomatch h
  | g :: fs, e :: ds, vs, hd, h => by
    unfold DenL at hd
    obtain ⟨w, ws, e1, a, b⟩ := hd
    subst e1
    rw [List.zip_cons_cons, List.lookup_cons] at h ⊢
    cases hg : f == g with
    | true =>
      rw [hg] at h
      cases h
      exact ⟨w, rfl, a⟩
    | false =>
      rw [hg] at h
      exact den_field b h
/-- an object of class C: fixed, or one that may change -/
def ObjD (μ : Mu) (x : D) (C : Addr) (fs : List Str) (ds : List D) : Prop := x = .obj C fs ds ∨ ∃ a, x = .at a ∧ μ a = some (.obj C fs ds)
theorem ObjD.hp {x : D} {C : Addr} {fs : List Str} {ds : List D} {v : V} (m : Mem K μ H) (hx : ObjD μ x C fs ds) (dv : Den K μ H x v) : ∃ p dx vs, v = .ref p ∧ H p = some (.ins C dx (fs.zip vs)) ∧ DenL K μ H ds vs := by
  rcases hx with e1 | ⟨a, e1, ha⟩
  · subst e1; unfold Den at dv
    obtain ⟨p, dx, vs, e2, s, n, b⟩ := dv
    exact ⟨p, dx, vs, e2, s.2, b⟩
  · subst e1
    unfold Den at dv
    obtain ⟨dx, vs, q, n, b⟩ := m a _ ha
    exact ⟨a, dx, vs, dv, q, b⟩
/-- o.f -/
theorem evx_fld {f : Str} (h : EvX K W X μ ρ ta fun μ1 x => ∃ C fs ds d, ObjD μ1 x C fs ds ∧ Cls K C ∧ NoAttr K C f ∧ (fs.zip ds).lookup f = some d ∧ Φ μ1 d) : EvX K W X μ ρ (tFld K ta f) Φ := fun σ H Q m e l k =>
  h σ H _ m e l fun μ1 x v H1 ⟨C, fs, ds, d, ho, hc, hn, hl, hq⟩ g1 m1 d1 => by
    obtain ⟨p, dx, vs, e1, q, b⟩ := ho.hp m1 d1
    obtain ⟨w, h1, h2⟩ := den_field b hl
    exact ⟨p, C, dx, fs.zip vs, w, e1, q, hc, hn, h1, k μ1 d w H1 hq g1 m1 h2⟩
theorem putF_zip {f : Str} {w : V} : ∀ {fs : List Str} {vs : List V}, f ∉ fs → fs.length = vs.length → putF f w (fs.zip vs) = (fs ++ [f]).zip (vs ++ [w])
  | [], [], _, _ => rfl
  | g :: fs, v :: vs, hf, hn => by
    have h1 : ¬ g = f := fun z => hf (by rw [z]; exact List.mem_cons_self ..)
    have ih := putF_zip (w := w) (fs := fs) (vs := vs) (fun z => hf (List.mem_cons_of_mem _ z)) (by simpa using hn)
    show (if g = f then (g, w) :: fs.zip vs else (g, v) :: putF f w (fs.zip vs)) = (g, v) :: (fs ++ [f]).zip (vs ++ [w])
    rw [if_neg h1, ih]
/-- o.f = e, a field that is new -/
theorem gs_fld {f : Str} (h : EvX K W X μ ρ tv fun μ1 y => EvX K W X μ1 ρ ta fun μ2 x => ∃ a C fs ds, x = .at a ∧ μ2 a = some (.obj C fs ds) ∧ Cls K C ∧ NoAttr K C f ∧ fs.length < 1000 ∧ f ∉ fs ∧ E.nx (mput μ2 a (.obj C (fs ++ [f]) (ds ++ [y]))) ρ) : GS K W X μ ρ (sFld K ta tv f) E := fun σ H D m e l k =>
  h σ H _ m e l fun μ1 y w H1 h1 g1 m1 d1 => h1 σ H1 _ m1 (e.grow g1) (l.grow g1) fun μ2 x v H2 ⟨a, C, fs, ds, ex, ha, hc, hn, hl, hf, hq⟩ g2 m2 d2 => by
    subst ex
    unfold Den at d2
    subst d2
    obtain ⟨dx, vs, q, n, b⟩ := m2 a _ ha
    refine ⟨a, C, dx, fs.zip vs, rfl, q, hc, hn, by rw [List.length_zip]; omega, ?_⟩
    rw [putF_zip hf n]
    have dy := Den.grow g2 _ _ d1
    exact k.nx _ _ _ _ hq ((g1.trans g2).trans (Grow.wr ha)) (m2.wr ha ⟨dx, _, upd_same, by rw [List.length_append, List.length_append, n]; rfl, (DenL.grow (Grow.wr ha) _ _ b).append (DenL.cons (Den.grow (Grow.wr ha) _ _ dy) DenL.nil)⟩) ((e.grow (g1.trans g2)).grow (Grow.wr ha))
end
/-! ### C(e, ..) whose __init__ may raise -/
section
variable {X : Cx} {CX : CXT} {k j : Nat} {f C : Addr} {fd : FuncData} {ps : List Str} {sp : Sp} {E : XK} {x : Str} {p pos : Pos} {e : Expr} {es : List Expr} {t : TA}
theorem run_makeS {pins : List (Addr × Obj)} {σ : L2.St} {H : Hp} {s : Shared} {Q : VK} {us : List Value} {vs : List V} (M : Mk X.K C f) (F : FnOk X.prog X.w X.K X.mg X.base CX k f fd ps sp) (hr : Room (k + 1) X.A) (hb : Binds X.K fd ps [])
    (hx : PassesAt CX X σ E) (I : L2.Inv X pins σ H s) (r : Vals vs us)
    (h : ∀ x dx, H x = none → H dx = none → dx ≠ x → sp (.ref x :: vs) (upd (upd H dx (.own x)) x (.ins C dx [])) (fun v H2 => v = .non ∧ Q (.ref x) H2) E) :
    wpAny (model X.prog X.w) X.A (call (.ref C) us) (EP X pins σ Q) X.xe s := by
  have hq := h (s.heap.objs.size + 1) s.heap.objs.size (I.hok.fresh (Nat.le_succ _)) (I.hok.fresh (Nat.le_refl _)) (Nat.ne_of_lt (Nat.lt_succ_self _))
  have I2 := L2.Inv.made (C := C) I
  have r2 : Vals (V.ref (s.heap.objs.size + 1) :: vs) (Value.ref (s.heap.objs.size + 1) :: us) := .cons rfl r
  have hl : (Value.ref (s.heap.objs.size + 1) :: us ++ []).length = ps.length := by
    rw [List.append_nil]
    have e := r2.length
    rw [F.len _ _ _ _ hq] at e
    exact e.symm
  have hbb := hb _ (Value.ref (s.heap.objs.size + 1) :: us) I2.kIn hl
  rw [List.append_nil] at hbb
  refine wpAny_call (make_map (f := f) I.kIn M.makes M.init (beq_iff_eq.mp M.fn) (codeAny_mono (F.run _ X.stack _ _ ⟨Value.ref (s.heap.objs.size + 1) :: us, []⟩ (Value.ref (s.heap.objs.size + 1) :: us) _ _ E (hr.make C us [])
    (I2.env0.make C us []) hbb r2 hq) fun r s' hq' => ?_))
  cases r with
  | error e => exact hx pins _ _ e s' I2 hq'
  | ok fl =>
    cases fl with
    | ret u =>
      obtain ⟨v, H', I3, rv, ev, q3⟩ := I2.after hq'
      subst ev
      exact ⟨rv, ⟨V.ref (s.heap.objs.size + 1), H', I3, rfl, q3⟩⟩
    | next => exact False.elim hq'
    | brk => exact False.elim hq'
    | cont => exact False.elim hq'
def tMakeS (C : Addr) (sp : Sp) (E : L2.St → XK) (t : TA) : TE := fun σ H Q => t σ H fun vs H1 => ∀ x dx, H1 x = none → H1 dx = none → dx ≠ x →
  sp (.ref x :: vs) (upd (upd H1 dx (.own x)) x (.ins C dx [])) (fun v H2 => v = .non ∧ Q (.ref x) H2) (E σ)
theorem pe_makeS {ES : L2.St → XK} (M : Mk X.K C f) (F : FnOk X.prog X.w X.K X.mg X.base CX k f fd ps sp) (hr : Room (k + 1) X.A) (hg : Gl X x) (hm : X.mg x = some (.ref C)) (hb : Binds X.K fd ps []) (hx : ∀ σ, PassesAt CX X σ (ES σ))
    (ha : PA X (e :: es) t) (hdb : (x == ("__debug__" : Str)) = false := by decide) (he : starEach (e :: es) X.env = (false, eval e X.env) :: starEach es X.env := by rfl) (hpl : (backTo pos (starEach es X.env)).any (·.1) = false := by rfl) :
    PE X (.Call (.Name x p) (e :: es) [] pos) (tMakeS C sp ES t) := by
  refine ⟨fun pins s σ H Q I h => ?_⟩
  refine wpAny_Call_Name_kw (ld_glob I hg hm ?_ hdb)
  refine PySem.W.callWith_K (h₀ := X.base) I.ok.mod.kin M.kp (thn (ha.run pos pins s σ H _ I h) fun us s1 ⟨vs, H1, I1, r, q⟩ => ⟨I1.kIn, ?_⟩) he hpl
  exact run_makeS M F hr hb (hx σ) I1 r q
end
section
variable {K : PySem.W.Frag} {W : WX} {X : XD} {μ : Mu} {ρ : Ro} {Φ : DP} {C : Addr} {n : Nat} {P : PD} {t : TA}
theorem evx_makeS (h : EvL K W X μ ρ t fun μ1 ds => ∀ x, μ1 x = none → ds.length + 1 = n ∧ P (mput μ1 x (.obj C [] [])) (.at x :: ds) (fun μ2 d => d = .non ∧ Φ μ2 (.at x)) fun μ' A d => X μ' ρ A d) : EvX K W X μ ρ (tMakeS C (spD K n P) (WE W) t) Φ := fun σ H Q m e l k =>
  h σ H _ m e l fun μ1 ds vs H1 hh g1 m1 d1 => fun x dx hx hdx hne => by
    have g2 : Grow μ1 H1 μ1 (upd H1 dx (.own x)) := Grow.new hdx
    have m2 : Mem K μ1 (upd H1 dx (.own x)) := m1.new hdx
    have hx2 : (upd H1 dx (.own x)) x = none := by rw [upd_ne (Ne.symm hne)]; exact hx
    have g3 : Grow μ1 (upd H1 dx (.own x)) (mput μ1 x (.obj C [] [])) (upd (upd H1 dx (.own x)) x (.ins C dx [])) := Grow.newM hx2
    have m3 := m2.newM (mo := .obj C [] []) (o := .ins C dx []) hx2 ⟨dx, [], upd_same, rfl, DenL.nil⟩
    obtain ⟨hl, hp⟩ := hh x (m1.free hx)
    have gg := (g1.trans g2).trans g3
    refine ⟨_, .at x :: ds, _, _, m3, DenL.cons (by unfold Den; rfl) (DenL.grow g3 _ _ (DenL.grow g2 _ _ d1)), by rw [List.length_cons]; exact hl, hp, ?_, ?_⟩
    · rintro μ' d v H' ⟨rfl, hq⟩ g mm dd
      unfold Den at dd
      exact ⟨dd, k μ' _ _ H' hq (gg.trans g) mm (by unfold Den; rfl)⟩
    · exact fun μ' A d dx v H' p g mm => l μ' ρ A d dx v σ H' p (gg.trans g) mm ((e.grow gg).grow g)
end
/-! ### C(k = v, ..) whose __init__ may raise -/
section
variable {X : Cx} {CX : CXT} {k n : Nat} {f C : Addr} {fd : FuncData} {ps ks : List Str} {sp : Sp} {E : XK} {x : Str} {p pos : Pos} {kws : List Keyword} {tk : TA} {g : List Value → List Value → List Value} {gV : List V → List V → List V}
def tMakeKS (C : Addr) (m : Nat) (sp : Sp) (gV : List V → List V → List V) (E : L2.St → XK) (tk : TA) : TE := fun σ H Q => tk σ H fun zs H2 => zs.length = m ∧ ∀ x dx, H2 x = none → H2 dx = none → dx ≠ x →
  sp (gV [.ref x] zs) (upd (upd H2 dx (.own x)) x (.ins C dx [])) (fun v H3 => v = .non ∧ Q (.ref x) H3) (E σ)
theorem run_makeKS {pins : List (Addr × Obj)} {σ : L2.St} {H : Hp} {s : Shared} {Q : VK} {ws : List Value} {zs : List V} (M : Mk X.K C f) (F : FnOk X.prog X.w X.K X.mg X.base CX k f fd ps sp) (hr : Room (k + 1) X.A) (hb : KBn X.K fd ps 1 ks g gV) (hx : PassesAt CX X σ E)
    (I : L2.Inv X pins σ H s) (rz : Vals zs ws) (l2 : zs.length = ks.length)
    (h : ∀ x dx, H x = none → H dx = none → dx ≠ x → sp (gV [.ref x] zs) (upd (upd H dx (.own x)) x (.ins C dx [])) (fun v H2 => v = .non ∧ Q (.ref x) H2) E) :
    wpAny (model X.prog X.w) X.A (call (.ref C) [] (ks.zip ws)) (EP X pins σ Q) X.xe s := by
  have hq := h (s.heap.objs.size + 1) s.heap.objs.size (I.hok.fresh (Nat.le_succ _)) (I.hok.fresh (Nat.le_refl _)) (Nat.ne_of_lt (Nat.lt_succ_self _))
  have I2 := L2.Inv.made (C := C) I
  have r1 : Vals [V.ref (s.heap.objs.size + 1)] [Value.ref (s.heap.objs.size + 1)] := .cons rfl .nil
  have r2 := hb.rel r1 rz
  refine wpAny_call (make_map (f := f) I.kIn M.makes M.init (beq_iff_eq.mp M.fn) (codeAny_mono (F.run _ X.stack _ _ ⟨[Value.ref (s.heap.objs.size + 1)], ks.zip ws⟩ (g [Value.ref (s.heap.objs.size + 1)] ws) _ _ E (hr.make C [] (ks.zip ws))
    (I2.env0.make C [] (ks.zip ws)) (hb.to _ [Value.ref (s.heap.objs.size + 1)] ws I2.kIn rfl (rz.length.symm.trans l2)) r2 hq) fun r s' hq' => ?_))
  cases r with
  | error e => exact hx pins _ _ e s' I2 hq'
  | ok fl =>
    cases fl with
    | ret u =>
      obtain ⟨v, H', I3, rv, ev, q3⟩ := I2.after hq'
      subst ev
      exact ⟨rv, ⟨V.ref (s.heap.objs.size + 1), H', I3, rfl, q3⟩⟩
    | next => exact False.elim hq'
    | brk => exact False.elim hq'
    | cont => exact False.elim hq'
theorem pe_makeKS {ES : L2.St → XK} (M : Mk X.K C f) (F : FnOk X.prog X.w X.K X.mg X.base CX k f fd ps sp) (hr : Room (k + 1) X.A) (hg : Gl X x) (hm : X.mg x = some (.ref C)) (hb : KBn X.K fd ps 1 ks g gV) (hx : ∀ σ, PassesAt CX X σ (ES σ)) (hkw : PK X kws tk)
    (hall : (backToKw pos (keywordEach kws X.env)).all (·.1.isSome) = true := by rfl) (hks : (backToKw pos (keywordEach kws X.env)).filterMap (·.1) = ks := by rfl) (hdb : (x == ("__debug__" : Str)) = false := by decide)
    (hpl : ((backTo pos (starEach [] X.env)).any (·.1) || (backToKw pos (keywordEach kws X.env)).any (·.1.isNone)) = false := by rfl) :
    PE X (.Call (.Name x p) [] kws pos) (tMakeKS C ks.length sp gV ES tk) := by
  refine ⟨fun pins s σ H Q I h => ?_⟩
  refine wpAny_Call_Name_kw (ld_glob I hg hm ?_ hdb)
  refine PySem.W.callWith_KW0 (h₀ := X.base) I.ok.mod.kin M.kp hall ?_ hpl
  refine thn (hkw.run pos pins s σ H _ I h) fun ws s2 ⟨zs, H2, I2, rz, l2, q2⟩ => ⟨I2.kIn, ?_⟩
  rw [hks]
  exact run_makeKS M F hr hb (hx σ) I2 rz l2 q2
end
section
variable {K : PySem.W.Frag} {W : WX} {X : XD} {μ : Mu} {ρ : Ro} {Φ : DP} {C : Addr} {n m a b : Nat} {pm : List Nat} {P : PD} {tk : TA}
theorem evx_makeKS (h : EvL K W X μ ρ tk fun μ1 ds => ds.length = m ∧ ∀ x, μ1 x = none → (permG a b pm [.at x] ds).length = n ∧ P (mput μ1 x (.obj C [] [])) (permG a b pm [.at x] ds) (fun μ2 d => d = .non ∧ Φ μ2 (.at x)) fun μ' A d => X μ' ρ A d) : EvX K W X μ ρ (tMakeKS C m (spD K n P) (permG a b pm) (WE W) tk) Φ := fun σ H Q mm0 e l k =>
  h σ H _ mm0 e l fun μ1 ds vs H1 hh g1 m1 d1 => ⟨by rw [← d1.length]; exact hh.1, fun x dx hx hdx hne => by
    have g2 : Grow μ1 H1 μ1 (upd H1 dx (.own x)) := Grow.new hdx
    have m2 : Mem K μ1 (upd H1 dx (.own x)) := m1.new hdx
    have hx2 : (upd H1 dx (.own x)) x = none := by rw [upd_ne (Ne.symm hne)]; exact hx
    have g3 : Grow μ1 (upd H1 dx (.own x)) (mput μ1 x (.obj C [] [])) (upd (upd H1 dx (.own x)) x (.ins C dx [])) := Grow.newM hx2
    have m3 := m2.newM (mo := .obj C [] []) (o := .ins C dx []) hx2 ⟨dx, [], upd_same, rfl, DenL.nil⟩
    obtain ⟨hl, hp⟩ := hh.2 x (m1.free hx)
    have gg := (g1.trans g2).trans g3
    have dx1 : DenL K (mput μ1 x (.obj C [] [])) (upd (upd H1 dx (.own x)) x (.ins C dx [])) [.at x] [.ref x] := DenL.cons (by unfold Den; rfl) DenL.nil
    refine ⟨_, permG a b pm [.at x] ds, _, _, m3, permG_den dx1 (DenL.grow g3 _ _ (DenL.grow g2 _ _ d1)), hl, hp, ?_, ?_⟩
    · rintro μ' d v H' ⟨rfl, hq⟩ g mm dd
      unfold Den at dd
      exact ⟨dd, k μ' _ _ H' hq (gg.trans g) mm (by unfold Den; rfl)⟩
    · exact fun μ' A d dx v H' p g mm => l μ' ρ A d dx v σ H' p (gg.trans g) mm ((e.grow gg).grow g)⟩
end
/-! ### dict comprehensions -/
def keyD : Key → D
  | .inl i => .int i
  | .inr x => .str x
section
variable {K : PySem.W.Frag} {W : WX} {X : XD} {μ : Mu} {H : Hp} {ρ : Ro} {Φ : DP} {tk tv : TE} {tt : TT} {g : TG} {wi : TI}
theorem den_key {k : Key} {v : V} (h : Den K μ H (keyD k) v) : v = kV k := by
  cases k <;> unfold keyD Den at h <;> exact h
theorem putK_zip {k : Key} {v : V} : ∀ {ks : List Key} {vs : List V}, k ∉ ks → ks.length = vs.length → putK (ks.zip vs) k v = (ks ++ [k]).zip (vs ++ [v]) := fun {ks vs} hk hl => by
  have h1 : ((ks.zip vs).any fun kv => decide (kv.1 = k)) = false := by
    rw [List.any_eq_false]
    intro p hp
    rw [decide_eq_true_eq]
    intro z
    obtain ⟨a, b⟩ := p
    exact hk (by rw [← show a = k from z]; exact (List.of_mem_zip hp).1)
  unfold putK
  rw [h1, if_neg (by decide), List.zip_append hl]
  rfl
/-- a dict comprehension: Iv by the turn, the store (the new dict in it), the keys and the data so far -/
theorem evx_dc {vs : List Nat} (h : ItX K W X μ ρ wi fun μ1 ds S => ∀ Dl, μ1 Dl = none → ∃ Iv : Nat → Mu → List Key → List D → Prop, Iv 0 (mput μ1 Dl (.dct [] [])) [] [] ∧
    (∀ i μ' ks acc, i ≤ ds.length → μ' Dl = some (.dct ks acc) → Iv i μ' ks acc → acc.length ≤ 1000000 ∧ S μ') ∧
    (∀ i d μ' ks acc, ds[i]? = some d → μ' Dl = some (.dct ks acc) → Iv i μ' ks acc → TcX K W X vs μ' (wipeD ρ vs) g d fun μ2 ρ2 =>
      EvB K W X μ2 ρ2 tt fun μ3 b => μ3 Dl = some (.dct ks acc) ∧ if b = true then EvX K W X μ3 ρ2 tk fun μ4 y => EvX K W X μ4 ρ2 tv fun μ5 z => ∃ k, y = keyD k ∧ μ5 Dl = some (.dct ks acc) ∧ k ∉ ks ∧ Iv (i + 1) (mput μ5 Dl (.dct (ks ++ [k]) (acc ++ [z]))) (ks ++ [k]) (acc ++ [z]) else Iv (i + 1) μ3 ks acc) ∧
    (∀ μ' ks acc, μ' Dl = some (.dct ks acc) → Iv ds.length μ' ks acc → Φ (mcut μ' Dl) (.dct ks acc) ∨ Φ μ' (.at Dl))) : EvX K W X μ ρ (tDc wi g tt tk tv vs) Φ := fun σ H Q m e l kk => by
  refine h σ H _ m e l fun μ1 ds S J H1 hp g1 m1 ok Dl hD => ?_
  obtain ⟨Iv, h0, hS, hs, hd⟩ := hp Dl (m1.free hD)
  obtain ⟨G, Y, w, hG, hY⟩ := ok.w
  have gn : Grow μ1 H1 (mput μ1 Dl (.dct [] [])) (upd H1 Dl (.dK [])) := Grow.newM hD
  have e1 := wipe_env (vs := vs) (e.grow g1)
  refine ⟨fun i m H' => m = ds.length - i ∧ i ≤ ds.length ∧ ∃ μ' ks acc, Iv i μ' ks acc ∧ μ' Dl = some (.dct ks acc) ∧ Grow μ1 H1 μ' H' ∧ Mem K μ' H', ⟨ds.length, by simp, Nat.zero_le _, _, [], [], h0, mput_same, gn, m1.newM hD ⟨[], upd_same, rfl, DenL.nil⟩⟩, ?_⟩
  rintro i n H' ⟨rfl, hi, μ', ks, acc, p, hl, gr, mm⟩
  have hz := hS i μ' ks acc hi hl p
  have hGG := hG μ' H' gr mm hz.2
  by_cases hlt : i < ds.length
  · refine .inr ⟨w.goes i H' hlt hGG, fun H'' => i + 1 ≤ ds.length ∧ ∃ μ' ks acc, Iv (i + 1) μ' ks acc ∧ μ' Dl = some (.dct ks acc) ∧ Grow μ1 H1 μ' H'' ∧ Mem K μ' H'', fun H'' nx => ⟨ds.length - (i + 1), by omega, rfl, nx.1, nx.2⟩, fun x H'' y => ?_⟩
    obtain ⟨q1, q2, q3⟩ := hY i μ' H' x H'' ds[i] gr mm hz.2 (w.yields i H' x H'' hlt hGG y) (by simp)
    have gg := gr.trans q1
    refine hs i ds[i] μ' ks acc (by simp) hl p (wipe σ vs) H'' x _ q2 (e1.grow gg) q3 fun ρ2 σ2 p2 e2 hw => ⟨by rw [hw, wipe_wipe], ?_⟩
    refine p2 σ2 H'' _ q2 e2 (l.grow (g1.trans gg)) fun μ3 b H3 ⟨hl3, p3⟩ g3 m3 => ?_
    cases b with
    | false =>
      rw [if_neg (by decide)] at p3 ⊢
      exact ⟨hlt, μ3, ks, acc, p3, hl3, gg.trans g3, m3⟩
    | true =>
      rw [if_pos rfl] at p3 ⊢
      refine p3 σ2 H3 _ m3 (e2.grow g3) (l.grow ((g1.trans gg).trans g3)) fun μ4 d v H4 p4 g4 m4 d4 => ?_
      refine p4 σ2 H4 _ m4 ((e2.grow g3).grow g4) (l.grow (((g1.trans gg).trans g3).trans g4)) fun μ5 z v5 H5 ⟨k, ey, hl5, hk, p5⟩ g5 m5 d5 => ?_
      subst ey
      obtain ⟨us, hu, hn, hb⟩ := m5 Dl _ hl5
      have ek := den_key d4
      subst ek
      refine ⟨_, k, rfl, hu, ?_, hlt, _, _, _, p5, mput_same, (((gg.trans g3).trans g4).trans g5).trans (Grow.wr hl5), m5.wr hl5 ⟨us ++ [v5], ?_, ?_, ?_⟩⟩
      · have : (ks.zip us).length ≤ us.length := by rw [List.length_zip]; exact Nat.min_le_right _ _
        have e2 := hb.length
        exact Nat.lt_of_le_of_lt (by omega : _ ≤ 1000000) (by decide)
      · rw [putK_zip hk hn, upd_same]
      · rw [List.length_append, List.length_append, hn]; rfl
      · exact (DenL.grow (Grow.wr hl5) _ _ hb).append (DenL.cons (Den.grow (Grow.wr hl5) _ _ d5) DenL.nil)
  · have e0 : i = ds.length := by omega
    subst e0
    refine .inl ⟨w.stops H' hGG, ?_⟩
    rcases hd μ' ks acc hl p with q | q
    · obtain ⟨us, hu, hn, hb⟩ := mm Dl _ hl
      exact kk _ _ _ H' q ((g1.trans gr).trans Grow.cut) mm.cut (by unfold Den; exact ⟨Dl, us, rfl, ⟨mcut_same, hu⟩, hn, DenL.less Less.cut _ _ hb⟩)
    · exact kk _ _ _ H' q (g1.trans gr) mm (by unfold Den; rfl)
/-- one whose turns change nothing, all keys unlike: from fk and f of the items -/
theorem evx_dcP {vs : List Nat} (h : ItX K W X μ ρ wi fun μ1 ds S => (ds.length ≤ 1000000 ∧ ∀ m : Mu, (∀ b o, μ1 b = some o → m b = some o) → S m) ∧ ∃ (fk : D → Key) (f : D → D), (ds.map fk).Nodup ∧
    (∀ d, d ∈ ds → ∀ μ' : Mu, (∀ b o, μ1 b = some o → μ' b = some o) → TcX K W X vs μ' (wipeD ρ vs) g d fun μ2 ρ2 => EvB K W X μ2 ρ2 tt fun μ3 b => μ3 = μ2 ∧ b = true ∧ EvX K W X μ3 ρ2 tk fun μ4 y => μ4 = μ3 ∧ y = keyD (fk d) ∧ EvX K W X μ4 ρ2 tv fun μ5 z => μ5 = μ4 ∧ z = f d) ∧
    Φ μ1 (.dct (ds.map fk) (ds.map f))) : EvX K W X μ ρ (tDc wi g tt tk tv vs) Φ := by
  refine evx_dc fun σ H R m e l k => h σ H R m e l fun μ1 ds S J H1 ⟨⟨hl, hS⟩, fk, f, hnd, hp, hq⟩ g1 m1 ok => k μ1 ds S J H1 (fun Dl hD => ?_) g1 m1 ok
  have up : ∀ μ' : Mu, (∀ b, b ≠ Dl → μ' b = μ1 b) → ∀ b o, μ1 b = some o → μ' b = some o := fun μ' hμ b o e => by
    rw [hμ b (fun z => by rw [z, hD] at e; cases e)]; exact e
  refine ⟨fun i μ' ks acc => ks = (ds.take i).map fk ∧ acc = (ds.take i).map f ∧ ∀ b, b ≠ Dl → μ' b = μ1 b, ⟨by simp, by simp, fun b hb => mput_ne hb⟩, ?_, ?_, ?_⟩
  · rintro i μ' ks acc hi _ ⟨rfl, rfl, hμ⟩
    refine ⟨?_, hS _ (up μ' hμ)⟩
    rw [List.length_map, List.length_take]
    omega
  · rintro i d μ' ks acc hi hD' ⟨rfl, rfl, hμ⟩
    have hm : d ∈ ds := List.mem_of_getElem? hi
    have e1 : ds.take (i + 1) = ds.take i ++ [d] := by
      rw [List.take_succ, hi]; rfl
    have hnk : fk d ∉ (ds.take i).map fk := by
      have h1 : (ds.take (i + 1)).map fk <+: ds.map fk := (List.take_prefix _ _).map fk
      have h2 := hnd.sublist h1.sublist
      rw [e1, List.map_append, List.nodup_append] at h2
      intro z
      exact h2.2.2 _ z (fk d) (List.mem_singleton.mpr rfl) rfl
    intro σ H v Q m e dd k
    refine hp d hm μ' (up μ' hμ) σ H v Q m e dd fun ρ2 σ2 q2 e2 hw => k ρ2 σ2 ?_ e2 hw
    refine q2.imp fun μ3 b ⟨r1, r2, r3⟩ => ?_
    subst r1 r2
    refine ⟨hD', ?_⟩
    rw [if_pos rfl]
    refine r3.imp fun μ4 y ⟨s1, s2, s3⟩ => ?_
    subst s1 s2
    refine s3.imp fun μ5 z ⟨t1, t2⟩ => ?_
    subst t1 t2
    refine ⟨fk d, rfl, hD', hnk, ?_, ?_, fun b hb => by rw [mput_ne hb]; exact hμ b hb⟩
    · rw [e1, List.map_append]; rfl
    · rw [e1, List.map_append]; rfl
  · rintro μ' ks acc hD' ⟨rfl, rfl, hμ⟩
    left
    have : mcut μ' Dl = μ1 := by
      funext b
      by_cases hb : b = Dl
      · subst hb; rw [mcut_same, hD]
      · rw [mcut_ne hb, hμ b hb]
    rw [this, List.take_length]
    exact hq
end
/-! ### methods of own classes -/
/-- the class (or one above it) has the method m, which keeps its promise -/
structure Met (P : Program) (w : World) (K : PySem.W.Frag) (mg : Str → Option Value) (base : Heap) (CX : CXT) (k : Nat) (C : Addr) (m : Str) (ps : List Str) (sp : Sp) : Prop where
  ex : ∃ (f : Addr) (fd : FuncData), PySem.W.findIn K (.ref C) m = some (some (.ref f)) ∧ PySem.W.isFn K (.ref f) = true ∧ PySem.W.keepIn K (.ref f) = true ∧ FnOk P w K mg base CX k f fd ps sp ∧ Binds K fd ps []
/-- where a method stands, with its text -/
def Mtd (K : PySem.W.Frag) (C : Addr) (m qual : Str) (st : Stmt) : Prop := ∃ (f : Addr) (fd : FuncData), PySem.W.findIn K (.ref C) m = some (some (.ref f)) ∧ PySem.W.isFn K (.ref f) = true ∧ Fun K m qual st f fd
section
variable {P : Program} {w : World} {K : PySem.W.Frag} {mg : Str → Option Value} {base : Heap} {C : Addr} {m qual : Str} {st : Stmt} {N ps : List Str} {k : Nat}
theorem met0 {Pd : PD} (h : Mtd K C m qual st) (S : FnScope N ps (defScope st))
    (hbi : ∀ (kV doc pm : Value) (an : Option Addr) (cdv ct : Value) (us : List Value), us.length = ps.length → bindArgs (PySem.W.fnOf m qual (defArgs st) (defBody st) (defScope st) .none kV doc pm an cdv ct) ⟨us, []⟩ = pure (ps.zip us))
    (hb : ∀ (f : Addr) (cdv : Value) (A : Around) (outer : List Env) (s : Shared) (H : Hp) (E : XK), Room k (A.deeper (envOfC qual (defScope st) s.heap.objs.size f cdv)) →
      ∃ t, PSs (cxOf CX0 P w K mg base N qual (defScope st) f cdv A outer s H E).nox (defBody st) t ∧ ∀ μ ds post exc, ds.length = ps.length → Pd μ ds post exc → GS K WN XN μ (startD N ds) t { nx := fun m _ => post m .non, rt := post }) :
    Met P w K mg base CX0 (k + 1) C m ps (spD K ps.length Pd) := by
  obtain ⟨f, fd, h1, h2, F⟩ := h
  exact ⟨f, fd, h1, h2, F.kp, def_ok F S (hb f), F.binds hbi⟩
theorem metX {Pd : PD} (h : Mtd K C m qual st) (S : FnScope N ps (defScope st))
    (hbi : ∀ (kV doc pm : Value) (an : Option Addr) (cdv ct : Value) (us : List Value), us.length = ps.length → bindArgs (PySem.W.fnOf m qual (defArgs st) (defBody st) (defScope st) .none kV doc pm an cdv ct) ⟨us, []⟩ = pure (ps.zip us))
    (hb : ∀ (f : Addr) (cdv : Value) (A : Around) (outer : List Env) (s : Shared) (H : Hp) (E : XK), Room k (A.deeper (envOfC qual (defScope st) s.heap.objs.size f cdv)) →
      ∃ t, PSs (cxOf (L2.CX P w) P w K mg base N qual (defScope st) f cdv A outer s H E) (defBody st) t ∧ ∀ μ ds post exc, ds.length = ps.length → Pd μ ds post exc → GS K (fun cls d _ H => E cls d H) (fun m _ C d => exc m C d) μ (startD N ds) t { nx := fun m _ => post m .non, rt := post }) :
    Met P w K mg base (L2.CX P w) (k + 1) C m ps (spD K ps.length Pd) := by
  obtain ⟨f, fd, h1, h2, F⟩ := h
  exact ⟨f, fd, h1, h2, F.kp, def_okX F S (hb f), F.binds hbi⟩
theorem Met.imp {CX : CXT} {n : Nat} {P1 P2 : PD} (c : Met P w K mg base CX k C m ps (spD K n P1)) (h : ∀ μ ds post exc, P2 μ ds post exc → P1 μ ds post exc) : Met P w K mg base CX k C m ps (spD K n P2) := by
  obtain ⟨f, fd, h1, h2, h3, G, b⟩ := c.ex
  exact ⟨f, fd, h1, h2, h3, fn_imp G h, b⟩
end
/-! ### a property read -/
/-- the class has f as a property whose getter keeps its promise -/
structure Prp (P : Program) (w : World) (K : PySem.W.Frag) (mg : Str → Option Value) (base : Heap) (k : Nat) (C : Addr) (f : Str) (sp : Sp) : Prop where
  ex : ∃ (p g : Addr) (fd : FuncData), PropOf K C f p g ∧ FnOk P w K mg base CX0 k g fd ["self"] sp ∧ Binds K fd ["self"] []
theorem prp0 {P : Program} {w : World} {K : PySem.W.Frag} {mg : Str → Option Value} {base : Heap} {C p g : Addr} {m qual : Str} {st : Stmt} {N : List Str} {k : Nat} {Pd : PD} {fd : FuncData} (hp : PropOf K C m p g) (F : Fun K m qual st g fd) (S : FnScope N ["self"] (defScope st))
    (hbi : ∀ (kV doc pm : Value) (an : Option Addr) (cdv ct : Value) (us : List Value), us.length = 1 → bindArgs (PySem.W.fnOf m qual (defArgs st) (defBody st) (defScope st) .none kV doc pm an cdv ct) ⟨us, []⟩ = pure ((["self"] : List Str).zip us))
    (hb : ∀ (f : Addr) (cdv : Value) (A : Around) (outer : List Env) (s : Shared) (H : Hp) (E : XK), Room k (A.deeper (envOfC qual (defScope st) s.heap.objs.size f cdv)) →
      ∃ t, PSs (cxOf CX0 P w K mg base N qual (defScope st) f cdv A outer s H E).nox (defBody st) t ∧ ∀ μ ds post exc, ds.length = 1 → Pd μ ds post exc → GS K WN XN μ (startD N ds) t { nx := fun m _ => post m .non, rt := post }) :
    Prp P w K mg base (k + 1) C m (spD K 1 Pd) := ⟨p, g, fd, hp, def_ok F S (hb g), F.binds hbi⟩
section
variable {X : Cx} {k j : Nat} {C : Addr} {f : Str} {sp : Sp} {e : Expr} {pos : Pos} {ta : TE}
theorem pe_prp (he : PE X e ta) (c : Cls X.K C) (h : Prp X.prog X.w X.K X.mg X.base k C f sp) (hr : Room j X.A) (hj : k + 1 ≤ j) (hab : attributeBase e f X.env (eval e X.env) = eval e X.env := by rfl) : PE X (.Attribute e f pos) (tProp C sp [] E0 ta) := by
  obtain ⟨p, g, fd, hp, F, b⟩ := h.ex
  exact pe_prop he c hp F (hr.mono hj) b .nil pass0 hab
end
/-- an object of class C as data -/
theorem obj_at {K : PySem.W.Frag} {μ : Mu} {H : Hp} {x : D} {C : Addr} {fs : List Str} {ds : List D} {v : V} (m : Mem K μ H) (hx : ObjD μ x C fs ds) (dv : Den K μ H x v) : ∃ p dx gs, v = .ref p ∧ H p = some (.ins C dx gs) := by
  obtain ⟨p, dx, vs, e, h, _⟩ := hx.hp m dv
  exact ⟨p, dx, _, e, h⟩
section
variable {K : PySem.W.Frag} {W : WX} {X : XD} {μ : Mu} {ρ : Ro} {Φ : DP} {C : Addr} {P : PD} {ta : TE}
theorem evx_prp (h : EvX K W X μ ρ ta fun μ1 x => (∃ fs ds, ObjD μ1 x C fs ds) ∧ P μ1 [x] Φ excN) : EvX K W X μ ρ (tProp C (spD K 1 P) [] E0 ta) Φ := fun σ H Q m e l k =>
  h σ H _ m e l fun μ1 x v H1 ⟨⟨fs, ds, ho⟩, hp⟩ g1 m1 d1 => by
    obtain ⟨p, dx, gs, e1, hi⟩ := obj_at m1 ho d1
    subst e1
    exact ⟨p, dx, gs, rfl, hi, μ1, [x], Φ, excN, m1, DenL.cons d1 DenL.nil, rfl, hp, fun μ' d v H' p g => k μ' d v H' p (g1.trans g), fun _ _ _ _ _ _ z => z.elim⟩
end
/-! ### len(o) by an own __len__ -/
section
variable {X : Cx} {k : Nat} {C f : Addr} {fd : FuncData} {ps : List Str} {sp : Sp}
def rLenO (C : Addr) (sp : Sp) : List V → Hp → VK → Prop := fun xs H Q => ∃ (a dx : Addr) (fs : List (Str × V)), xs = [.ref a] ∧ H a = some (.ins C dx fs) ∧ sp [.ref a] H (fun v H' => ∃ n : Int, v = .int n ∧ 0 ≤ n ∧ n < 2 ^ 63 ∧ Q (.int n) H') E0
theorem call_lenO (hi : PySem.W.findIn X.K (.ref C) "__len__" = some (some (.ref f))) (ht : PySem.W.typeIn X.K (.ref f) = some (.type "function")) (F : FnOk X.prog X.w X.K X.mg X.base CX0 k f fd ps sp) (hr : Room (k + 1) X.A) (hb : Binds X.K fd ps []) : CallR X (.builtin "len") (rLenO C sp) := by
  intro pins s σ H xs us Q I r h
  obtain ⟨a, dx, fs, rfl, ha, q⟩ := h
  obtain ⟨u, rfl, ru⟩ : ∃ u, us = [u] ∧ RelV (.ref a) u := by
    cases r with
    | cons h1 h2 => cases h2; exact ⟨_, rfl, h1⟩
  obtain rfl : u = Value.ref a := ru
  obtain ⟨mA, O, _, _, _, _⟩ := ins_get I.hok ha
  obtain ⟨od, J, _⟩ := O.look
  refine Calls.call_function_entry kind_len plain_len entry_len (args_len1 _) ?_
  unfold Builtin.«len»
  refine wpAny_bind (m := oneArg "len" _) (wpAny_pure ?_)
  refine wpAny_bind (m := callSpecial? (.ref a) (Str.ofString "__len__")) (PySem.W.special_fn I.kIn J hi ht ?_)
  have hl : ([Value.ref a] ++ []).length = ps.length := by
    have e := F.len _ _ _ _ q
    exact e
  refine wpAny_call (codeAny_mono (F.run X.A.in1 X.stack s H ⟨[.ref a], []⟩ [.ref a] [.ref a] _ E0 hr.in1 I.env0.in1 (hb _ [.ref a] I.kIn hl) (.cons rfl .nil) q) fun r s' hq => ?_)
  rcases r with e | (_ | _ | _ | u)
  · exact False.elim hq
  · exact False.elim hq
  · exact False.elim hq
  · exact False.elim hq
  · obtain ⟨v, H', I3, rv, n, ev, n0, n1, q3⟩ := I.after hq
    subst ev
    obtain ⟨t, rfl⟩ := rv
    refine wpAny_bind (wpAny_holding (wpAny_pure ?_))
    refine wpAny_bind (wpAny_letGo ?_)
    show wpAny _ _ (if n < 0 then _ else _) _ _ _
    rw [if_neg (by omega)]
    show wpAny _ _ (if n ≥ 2 ^ 63 then _ else _) _ _ _
    rw [if_neg (by omega)]
    exact wpAny_bind (wpAny_mkInt (wpAny_pure ⟨_, rfl, .int n, H', I3.tok _, ⟨_, rfl⟩, q3⟩))
end
section
variable {X : Cx} {k j : Nat} {C : Addr} {ps : List Str} {sp : Sp}
/-- len(o), o of class C -/
theorem call_lenC (h : Met X.prog X.w X.K X.mg X.base CX0 k C "__len__" ps sp) (hr : Room j X.A) (hj : k + 1 ≤ j) : CallR X (.builtin "len") (rLenO C sp) := by
  obtain ⟨f, fd, h1, h2, _, F, b⟩ := h.ex
  exact call_lenO h1 (beq_iff_eq.mp h2) F (hr.mono hj) b
end
section
variable {K : PySem.W.Frag} {μ : Mu} {Φ : DP} {C : Addr} {P : PD} {x : D}
theorem cax_lenO (ho : ∃ fs ds, ObjD μ x C fs ds) (hp : P μ [x] (fun μ' d => ∃ n : Nat, d = .int n ∧ n ≤ 1000000 ∧ Φ μ' (.int n)) excN) : CaX K (rLenO C (spD K 1 P)) μ [x] Φ := fun H vs Q m d k => by
  obtain ⟨v, e, a⟩ := denL1 d
  obtain ⟨fs, ds, ho⟩ := ho
  obtain ⟨p, dx, gs, e1, hi⟩ := obj_at m ho a
  subst e1 e
  refine ⟨p, dx, gs, rfl, hi, μ, [x], _, excN, m, d, rfl, hp, ?_, fun _ _ _ _ _ _ z => z.elim⟩
  rintro μ' d' v' H' ⟨n, rfl, hn, hq⟩ g mm dd
  unfold Den at dd
  exact ⟨n, dd, by omega, by omega, k μ' _ _ H' hq g mm (by unfold Den; rfl)⟩
/-- isinstance(o, c), o of an own class -/
theorem cax_isO {c : Addr} {b : Bool} (ho : ∃ fs ds, ObjD μ x C fs ds) (cl : Cls K C) (ha : PySem.W.findIn K (.ref C) "__class__" = some (some (.builtin "object.__class__"))) (G : ClsG K) (hm : PySem.W.mroIn K C (.type "object") = some true)
    (hk : PySem.W.kitOne K (.ref C) (.ref c) = some b) (h : Φ μ (.bl b)) : CaX K (rIsU K) μ [x, .at c] Φ := fun H vs Q m dd k => by
  obtain ⟨v, v', e, a, a'⟩ := denL2 dd
  obtain ⟨fs, ds, ho⟩ := ho
  obtain ⟨p, dx, gs, e1, hi⟩ := obj_at m ho a
  unfold Den at a'
  subst a' e1
  exact .inl (.inl ⟨.ref p, .ref c, .ref C, .ref c, b, e, .own c, .base (.ins hi cl ha G.hn G.ht hm), hk, k μ _ _ H h (Grow.refl _ _) m (by unfold Den; rfl)⟩)
/-- isinstance of plain data, an own class -/
theorem cax_isP {T : String} {c : Addr} {b : Bool} (ht : tyM μ x = some T) (hk : PySem.W.kitOne K (.type T) (.ref c) = some b) (h : Φ μ (.bl b)) : CaX K (rIsU K) μ [x, .at c] Φ := fun H vs Q m d k => by
  obtain ⟨v, v', e, a, a'⟩ := denL2 d
  unfold Den at a'
  subst a'
  exact .inl (.inl ⟨v, .ref c, .type T, .ref c, b, e, .own c, den_ty m a ht, hk, k μ _ _ H h (Grow.refl _ _) m (by unfold Den; rfl)⟩)
end
/-! ### C(..) of an own class -/
/-- a class of the module, with its __init__ and its promise -/
structure MkC (P : Program) (w : World) (K : PySem.W.Frag) (mg : Str → Option Value) (base : Heap) (CX : CXT) (k : Nat) (x qual : Str) (C : Addr) (st : Stmt) (ps : List Str) (sp : Sp) : Prop where
  ex : ∃ (f : Addr) (fd : FuncData), mg x = some (.ref C) ∧ Mk K C f ∧ Fun K "__init__" qual st f fd ∧ FnOk P w K mg base CX k f fd ps sp ∧ Binds K fd ps []
theorem mkX {P : Program} {w : World} {K : PySem.W.Frag} {mg : Str → Option Value} {base : Heap} {C f : Addr} {x qual : Str} {st : Stmt} {N ps : List Str} {k : Nat} {Pd : PD} {fd : FuncData} (hm : mg x = some (.ref C)) (M : Mk K C f) (F : Fun K "__init__" qual st f fd) (S : FnScope N ps (defScope st))
    (hbi : ∀ (kV doc pm : Value) (an : Option Addr) (cdv ct : Value) (us : List Value), us.length = ps.length → bindArgs (PySem.W.fnOf "__init__" qual (defArgs st) (defBody st) (defScope st) .none kV doc pm an cdv ct) ⟨us, []⟩ = pure (ps.zip us))
    (hb : ∀ (f : Addr) (cdv : Value) (A : Around) (outer : List Env) (s : Shared) (H : Hp) (E : XK), Room k (A.deeper (envOfC qual (defScope st) s.heap.objs.size f cdv)) →
      ∃ t, PSs (cxOf (L2.CX P w) P w K mg base N qual (defScope st) f cdv A outer s H E) (defBody st) t ∧ ∀ μ ds post exc, ds.length = ps.length → Pd μ ds post exc → GS K (fun cls d _ H => E cls d H) (fun m _ C d => exc m C d) μ (startD N ds) t { nx := fun m _ => post m .non, rt := post }) :
    MkC P w K mg base (L2.CX P w) (k + 1) x qual C st ps (spD K ps.length Pd) := ⟨f, fd, hm, M, F, def_okX F S (hb f), F.binds hbi⟩
theorem mk0 {P : Program} {w : World} {K : PySem.W.Frag} {mg : Str → Option Value} {base : Heap} {C f : Addr} {x qual : Str} {st : Stmt} {N ps : List Str} {k : Nat} {Pd : PD} {fd : FuncData} (hm : mg x = some (.ref C)) (M : Mk K C f) (F : Fun K "__init__" qual st f fd) (S : FnScope N ps (defScope st))
    (hbi : ∀ (kV doc pm : Value) (an : Option Addr) (cdv ct : Value) (us : List Value), us.length = ps.length → bindArgs (PySem.W.fnOf "__init__" qual (defArgs st) (defBody st) (defScope st) .none kV doc pm an cdv ct) ⟨us, []⟩ = pure (ps.zip us))
    (hb : ∀ (f : Addr) (cdv : Value) (A : Around) (outer : List Env) (s : Shared) (H : Hp) (E : XK), Room k (A.deeper (envOfC qual (defScope st) s.heap.objs.size f cdv)) →
      ∃ t, PSs (cxOf CX0 P w K mg base N qual (defScope st) f cdv A outer s H E).nox (defBody st) t ∧ ∀ μ ds post exc, ds.length = ps.length → Pd μ ds post exc → GS K WN XN μ (startD N ds) t { nx := fun m _ => post m .non, rt := post }) :
    MkC P w K mg base CX0 (k + 1) x qual C st ps (spD K ps.length Pd) := ⟨f, fd, hm, M, F, def_ok F S (hb f), F.binds hbi⟩
theorem kbn_of {K : PySem.W.Frag} {x qual : Str} {st : Stmt} {ps : List Str} {f : Addr} {fd : FuncData} {n m : Nat} {pm : List Nat} {ks : List Str} (F : Fun K x qual st f fd) (hm : ks.length = m)
    (h : ∀ (kV doc pv : Value) (an : Option Addr) (cdv ct : Value) (us ws : List Value), us.length = n → ws.length = m → bindArgs (PySem.W.fnOf x qual (defArgs st) (defBody st) (defScope st) .none kV doc pv an cdv ct) ⟨us, ks.zip ws⟩ = pure (ps.zip (pm.filterMap fun i => (us ++ ws)[i]?))) :
    KBn K fd ps n ks (permG n m pm) (permG n m pm) := by
  obtain ⟨oc, od, kV, doc, pv, an, cdv, ct, osl, rfl, lk, hcd⟩ := F.ex
  refine ⟨fun s us ws _ h1 h2 => ?_, fun {vs us zs ws} r rz => ?_⟩
  · unfold permG
    rw [if_pos ⟨h1, h2.trans hm⟩]
    exact .of_eq (h kV doc pv an cdv ct us ws h1 (h2.trans hm))
  · unfold permG
    rw [r.length, rz.length]
    by_cases c : us.length = n ∧ ws.length = m
    · rw [if_pos c, if_pos c]
      exact perm_vals (r.append rz)
    · rw [if_neg c, if_neg c]
      exact .nil
section
variable {X : Cx} {W : WX} {k j m : Nat} {x qual : Str} {C : Addr} {st : Stmt} {ps ks : List Str} {sp : Sp} {p pos : Pos} {e : Expr} {es : List Expr} {t tk : TA} {kws : List Keyword} {pm : List Nat}
theorem pe_mkS (c : MkC X.prog X.w X.K X.mg X.base (L2.CX X.prog X.w) k x qual C st ps sp) (hr : Room j X.A) (hj : k + 1 ≤ j) (tw : Takes X W) (ha : PA X (e :: es) t) (hg : Gl X x := by rfl) (hdb : (x == ("__debug__" : Str)) = false := by decide)
    (he : starEach (e :: es) X.env = (false, eval e X.env) :: starEach es X.env := by rfl) (hpl : (backTo pos (starEach es X.env)).any (·.1) = false := by rfl) : PE X (.Call (.Name x p) (e :: es) [] pos) (tMakeS C sp (WE W) t) := by
  obtain ⟨f, fd, h1, M, _, F, b⟩ := c.ex
  exact pe_makeS M F (hr.mono hj) hg h1 b (fun σ => passAt tw σ) ha hdb he hpl
theorem pe_mk0 (c : MkC X.prog X.w X.K X.mg X.base CX0 k x qual C st ps sp) (hr : Room j X.A) (hj : k + 1 ≤ j) (ha : PA X (e :: es) t) (hg : Gl X x := by rfl) (hdb : (x == ("__debug__" : Str)) = false := by decide)
    (he : starEach (e :: es) X.env = (false, eval e X.env) :: starEach es X.env := by rfl) (hpl : (backTo pos (starEach es X.env)).any (·.1) = false := by rfl) : PE X (.Call (.Name x p) (e :: es) [] pos) (tMakeS C sp (fun _ => E0) t) := by
  obtain ⟨f, fd, h1, M, _, F, b⟩ := c.ex
  exact pe_makeS M F (hr.mono hj) hg h1 b (fun σ pins H s e s' I q => q.elim) ha hdb he hpl
theorem pe_mkKS (c : MkC X.prog X.w X.K X.mg X.base (L2.CX X.prog X.w) k x qual C st ps sp) (hr : Room j X.A) (hj : k + 1 ≤ j) (tw : Takes X W) (hm : ks.length = m)
    (h : ∀ (kV doc pv : Value) (an : Option Addr) (cdv ct : Value) (us ws : List Value), us.length = 1 → ws.length = m → bindArgs (PySem.W.fnOf "__init__" qual (defArgs st) (defBody st) (defScope st) .none kV doc pv an cdv ct) ⟨us, ks.zip ws⟩ = pure (ps.zip (pm.filterMap fun i => (us ++ ws)[i]?)))
    (hkw : PK X kws tk) (hg : Gl X x := by rfl) (hall : (backToKw pos (keywordEach kws X.env)).all (·.1.isSome) = true := by rfl) (hks : (backToKw pos (keywordEach kws X.env)).filterMap (·.1) = ks := by rfl)
    (hdb : (x == ("__debug__" : Str)) = false := by decide) (hn : ((backTo pos (starEach [] X.env)).any (·.1) || (backToKw pos (keywordEach kws X.env)).any (·.1.isNone)) = false := by rfl) :
    PE X (.Call (.Name x p) [] kws pos) (tMakeKS C ks.length sp (permG 1 m pm) (WE W) tk) := by
  obtain ⟨f, fd, h1, M, Ff, F, b⟩ := c.ex
  exact pe_makeKS M F (hr.mono hj) hg h1 (kbn_of Ff hm h) (fun σ => passAt tw σ) hkw hall hks hdb hn
end
section
variable {K : PySem.W.Frag} {W : WX} {X : XD} {μ : Mu} {ρ : Ro} {Φ : DP} {C : Addr} {n m a b : Nat} {pm : List Nat} {P : PD} {t tk : TA}
/-- an object just made, that will change no more -/
def Frozen (C : Addr) (x : Addr) (Φ : DP) (μ2 : Mu) (d : D) : Prop := d = .non ∧ ∃ fs ds, μ2 x = some (.obj C fs ds) ∧ Φ (mcut μ2 x) (.obj C fs ds)
theorem evx_makeSZ (h : EvL K W X μ ρ t fun μ1 ds => ∀ x, μ1 x = none → ds.length + 1 = n ∧ P (mput μ1 x (.obj C [] [])) (.at x :: ds) (Frozen C x Φ) fun μ' A d => X μ' ρ A d) : EvX K W X μ ρ (tMakeS C (spD K n P) (WE W) t) Φ := fun σ H Q m e l k =>
  h σ H _ m e l fun μ1 ds vs H1 hh g1 m1 d1 => fun x dx hx hdx hne => by
    have g2 : Grow μ1 H1 μ1 (upd H1 dx (.own x)) := Grow.new hdx
    have m2 : Mem K μ1 (upd H1 dx (.own x)) := m1.new hdx
    have hx2 : (upd H1 dx (.own x)) x = none := by rw [upd_ne (Ne.symm hne)]; exact hx
    have g3 : Grow μ1 (upd H1 dx (.own x)) (mput μ1 x (.obj C [] [])) (upd (upd H1 dx (.own x)) x (.ins C dx [])) := Grow.newM hx2
    have m3 := m2.newM (mo := .obj C [] []) (o := .ins C dx []) hx2 ⟨dx, [], upd_same, rfl, DenL.nil⟩
    obtain ⟨hl, hp⟩ := hh x (m1.free hx)
    have gg := (g1.trans g2).trans g3
    refine ⟨_, .at x :: ds, _, _, m3, DenL.cons (by unfold Den; rfl) (DenL.grow g3 _ _ (DenL.grow g2 _ _ d1)), by rw [List.length_cons]; exact hl, hp, ?_, ?_⟩
    · rintro μ' d v H' ⟨rfl, fs, es, hμ, hq⟩ g mm dd
      unfold Den at dd
      obtain ⟨dx', us, hi, hn, hb⟩ := mm x _ hμ
      exact ⟨dd, k _ _ _ H' hq ((gg.trans g).trans Grow.cut) mm.cut (by unfold Den; exact ⟨x, dx', us, rfl, ⟨mcut_same, hi⟩, hn, DenL.less Less.cut _ _ hb⟩)⟩
    · exact fun μ' A d dx v H' p g mm => l μ' ρ A d dx v σ H' p (gg.trans g) mm ((e.grow gg).grow g)
theorem evx_make0Z (h : EvL K W X μ ρ t fun μ1 ds => ∀ x, μ1 x = none → ds.length + 1 = n ∧ P (mput μ1 x (.obj C [] [])) (.at x :: ds) (Frozen C x Φ) excN) : EvX K W X μ ρ (tMakeS C (spD K n P) (fun _ => E0) t) Φ := fun σ H Q m e l k =>
  h σ H _ m e l fun μ1 ds vs H1 hh g1 m1 d1 => fun x dx hx hdx hne => by
    have g2 : Grow μ1 H1 μ1 (upd H1 dx (.own x)) := Grow.new hdx
    have m2 : Mem K μ1 (upd H1 dx (.own x)) := m1.new hdx
    have hx2 : (upd H1 dx (.own x)) x = none := by rw [upd_ne (Ne.symm hne)]; exact hx
    have g3 : Grow μ1 (upd H1 dx (.own x)) (mput μ1 x (.obj C [] [])) (upd (upd H1 dx (.own x)) x (.ins C dx [])) := Grow.newM hx2
    have m3 := m2.newM (mo := .obj C [] []) (o := .ins C dx []) hx2 ⟨dx, [], upd_same, rfl, DenL.nil⟩
    obtain ⟨hl, hp⟩ := hh x (m1.free hx)
    have gg := (g1.trans g2).trans g3
    refine ⟨_, .at x :: ds, _, _, m3, DenL.cons (by unfold Den; rfl) (DenL.grow g3 _ _ (DenL.grow g2 _ _ d1)), by rw [List.length_cons]; exact hl, hp, ?_, fun _ _ _ _ _ _ z => z.elim⟩
    · rintro μ' d v H' ⟨rfl, fs, es, hμ, hq⟩ g mm dd
      unfold Den at dd
      obtain ⟨dx', us, hi, hn, hb⟩ := mm x _ hμ
      exact ⟨dd, k _ _ _ H' hq ((gg.trans g).trans Grow.cut) mm.cut (by unfold Den; exact ⟨x, dx', us, rfl, ⟨mcut_same, hi⟩, hn, DenL.less Less.cut _ _ hb⟩)⟩
theorem evx_makeKSZ (h : EvL K W X μ ρ tk fun μ1 ds => ds.length = m ∧ ∀ x, μ1 x = none → (permG a b pm [.at x] ds).length = n ∧ P (mput μ1 x (.obj C [] [])) (permG a b pm [.at x] ds) (Frozen C x Φ) fun μ' A d => X μ' ρ A d) : EvX K W X μ ρ (tMakeKS C m (spD K n P) (permG a b pm) (WE W) tk) Φ := fun σ H Q mm0 e l k =>
  h σ H _ mm0 e l fun μ1 ds vs H1 hh g1 m1 d1 => ⟨by rw [← d1.length]; exact hh.1, fun x dx hx hdx hne => by
    have g2 : Grow μ1 H1 μ1 (upd H1 dx (.own x)) := Grow.new hdx
    have m2 : Mem K μ1 (upd H1 dx (.own x)) := m1.new hdx
    have hx2 : (upd H1 dx (.own x)) x = none := by rw [upd_ne (Ne.symm hne)]; exact hx
    have g3 : Grow μ1 (upd H1 dx (.own x)) (mput μ1 x (.obj C [] [])) (upd (upd H1 dx (.own x)) x (.ins C dx [])) := Grow.newM hx2
    have m3 := m2.newM (mo := .obj C [] []) (o := .ins C dx []) hx2 ⟨dx, [], upd_same, rfl, DenL.nil⟩
    obtain ⟨hl, hp⟩ := hh.2 x (m1.free hx)
    have gg := (g1.trans g2).trans g3
    have dx1 : DenL K (mput μ1 x (.obj C [] [])) (upd (upd H1 dx (.own x)) x (.ins C dx [])) [.at x] [.ref x] := DenL.cons (by unfold Den; rfl) DenL.nil
    refine ⟨_, permG a b pm [.at x] ds, _, _, m3, permG_den dx1 (DenL.grow g3 _ _ (DenL.grow g2 _ _ d1)), hl, hp, ?_, ?_⟩
    · rintro μ' d v H' ⟨rfl, fs, es, hμ, hq⟩ g mm dd
      unfold Den at dd
      obtain ⟨dx', us, hi, hn, hb⟩ := mm x _ hμ
      exact ⟨dd, k _ _ _ H' hq ((gg.trans g).trans Grow.cut) mm.cut (by unfold Den; exact ⟨x, dx', us, rfl, ⟨mcut_same, hi⟩, hn, DenL.less Less.cut _ _ hb⟩)⟩
    · exact fun μ' A d dx v H' p g mm => l μ' ρ A d dx v σ H' p (gg.trans g) mm ((e.grow gg).grow g)⟩
end
/-- a statement whose walk has begun, cut at its end -/
theorem gs_at {K : PySem.W.Frag} {W : WX} {X : XD} {μ : Mu} {ρ : Ro} {t : TS} {E : ED} (M : Mu → Ro → Prop) (h : GS K W X μ ρ t { E with nx := M }) (k : ∀ μ1 ρ1, M μ1 ρ1 → E.nx μ1 ρ1) : GS K W X μ ρ t E :=
  h.imp k (fun _ _ z => z) (fun _ _ z => z) (fun _ _ z => z)
section
variable {K : PySem.W.Frag} {W : WX} {X : XD} {μ : Mu} {ρ : Ro} {E : ED} {tt : TT} {t u : TS}
/-- an if whose test changes nothing, its ways joined: Ψ of the answer -/
theorem gs_ifB (Ψ : Bool → Prop) (h : EvB K W X μ ρ tt fun m b => m = μ ∧ Ψ b) (ht : Ψ true → GS K W X μ ρ t E) (hf : Ψ false → GS K W X μ ρ u E) : GS K W X μ ρ (tIfS tt t u) E :=
  gs_if (h.imp fun m b ⟨e, q⟩ => by
    subst e
    cases b with
    | true => rw [if_pos rfl]; exact ht q
    | false => rw [if_neg (by decide)]; exact hf q)
/-- the same where the test changes the store -/
theorem gs_ifM (Ψ : Mu → Bool → Prop) (h : EvB K W X μ ρ tt Ψ) (ht : ∀ m, Ψ m true → GS K W X m ρ t E) (hf : ∀ m, Ψ m false → GS K W X m ρ u E) : GS K W X μ ρ (tIfS tt t u) E :=
  gs_if (h.imp fun m b q => by
    cases b with
    | true => rw [if_pos rfl]; exact ht m q
    | false => rw [if_neg (by decide)]; exact hf m q)
end
/-! ### what may raise, called where nothing is raised -/
theorem takes_never {X : Cx} : Takes X WN := fun _ _ ⟨_, _, _, _, _, _, _, _, _, _, _, _, _, _, _, _, w⟩ => w.elim
/-! ### d[k] of a kept dict -/
section
variable {K : PySem.W.Frag} {W : WX} {X : XD} {μ : Mu} {H : Hp} {ρ : Ro} {Φ : DP} {ta tb : TE}
/-- what a dict has at a key -/
def atK (ks : List Key) (ds : List D) (k : Key) : Option D := ((ks.zip ds).find? fun kv => decide (kv.1 = k)).map (·.2)
theorem den_valV {k : Key} {d : D} : ∀ {ks : List Key} {ds : List D} {vs : List V}, DenL K μ H ds vs → atK ks ds k = some d → ∃ v, valV (ks.zip vs) k = some v ∧ Den K μ H d v
  | [], ds, vs, _, h => by unfold atK at h; rw [List.zip_nil_left] at h; exact nomatch h
  | g :: ks, [], vs, _, h => by unfold atK at h; rw [List.zip_nil_right] at h; exact nomatch h
  | g :: ks, e :: ds, vs, hd, h => by
    unfold DenL at hd
    obtain ⟨w, ws, e1, a, b⟩ := hd
    subst e1
    unfold atK at h
    rw [List.zip_cons_cons, List.find?_cons] at h
    by_cases hg : g = k
    · simp only [hg, decide_true] at h
      cases h
      exact ⟨w, valV_pos hg, a⟩
    · simp only [hg, decide_false] at h
      obtain ⟨v, h1, h2⟩ := den_valV b h
      exact ⟨v, by rw [List.zip_cons_cons, valV_neg hg]; exact h1, h2⟩
theorem evx_dget (h : EvX K W X μ ρ ta fun μ1 x => EvX K W X μ1 ρ tb fun μ2 y => ∃ ks ds k d, (x = .dct ks ds ∨ ∃ a, x = .at a ∧ μ2 a = some (.dct ks ds)) ∧ y = keyD k ∧ atK ks ds k = some d ∧ Φ μ2 d) : EvX K W X μ ρ (tDGet ta tb) Φ := fun σ H Q m e l kk =>
  h σ H _ m e l fun μ1 x v H1 h1 g1 m1 d1 => h1 σ H1 _ m1 (e.grow g1) (l.grow g1) fun μ2 y w H2 ⟨ks, ds, k, d, hx, hy, hl, hq⟩ g2 m2 d2 => by
    subst hy
    have ek := den_key d2
    subst ek
    have dx := Den.grow g2 _ _ d1
    obtain ⟨p, vs, e1, e2, b⟩ : ∃ p vs, v = .ref p ∧ H2 p = some (.dK (ks.zip vs)) ∧ DenL K μ2 H2 ds vs := by
      rcases hx with rfl | ⟨a, rfl, ha⟩
      · unfold Den at dx
        obtain ⟨p, vs, e1, s, n, b⟩ := dx
        exact ⟨p, vs, e1, s.2, b⟩
      · unfold Den at dx
        obtain ⟨vs, q, n, b⟩ := m2 a _ ha
        exact ⟨a, vs, dx, q, b⟩
    obtain ⟨u, h3, h4⟩ := den_valV b hl
    exact ⟨p, u, e1, by rw [← h3]; exact DGet.k e2, kk μ2 d u H2 hq (g1.trans g2) m2 h4⟩
/-! ### sum, any, all -/
theorem denInt : ∀ {zs : List Int} {vs : List V}, DenL K μ H (zs.map D.int) vs → vs = zs.map V.int
  | [], vs, h => by unfold List.map DenL at h; exact h
  | z :: zs, vs, h => by
    rw [List.map_cons] at h
    unfold DenL at h
    obtain ⟨w, ws, e, a, b⟩ := h
    unfold Den at a
    subst e a
    rw [denInt b, List.map_cons]
theorem denBl : ∀ {zs : List Bool} {vs : List V}, DenL K μ H (zs.map D.bl) vs → vs = zs.map V.bl
  | [], vs, h => by unfold List.map DenL at h; exact h
  | z :: zs, vs, h => by
    rw [List.map_cons] at h
    unfold DenL at h
    obtain ⟨w, ws, e, a, b⟩ := h
    unfold Den at a
    subst e a
    rw [denBl b, List.map_cons]
theorem cax_sum {x : D} {zs : List Int} {S : Mu → Prop} (hd : IsL μ x (zs.map D.int) S) (h : Φ μ (.int zs.sum)) : CaX K (rSum K) μ [x] Φ := fun H vs Q m d k => by
  obtain ⟨v, e, a⟩ := denL1 d
  obtain ⟨p, us, e2, sq, b⟩ := isL_sq m hd a
  subst e2
  rw [denInt b] at sq
  exact ⟨p, zs, e, sq, k μ _ _ H h (Grow.refl _ _) m (by unfold Den; rfl)⟩
theorem cax_any {x : D} {zs : List Bool} {S : Mu → Prop} (hd : IsL μ x (zs.map D.bl) S) (h : Φ μ (.bl (zs.any id))) : CaX K (rAny K) μ [x] Φ := fun H vs Q m d k => by
  obtain ⟨v, e, a⟩ := denL1 d
  obtain ⟨p, us, e2, sq, b⟩ := isL_sq m hd a
  subst e2
  rw [denBl b] at sq
  exact ⟨p, zs, e, sq, k μ _ _ H h (Grow.refl _ _) m (by unfold Den; rfl)⟩
theorem cax_all {x : D} {zs : List Bool} {S : Mu → Prop} (hd : IsL μ x (zs.map D.bl) S) (h : Φ μ (.bl (zs.all id))) : CaX K (rAll K) μ [x] Φ := fun H vs Q m d k => by
  obtain ⟨v, e, a⟩ := denL1 d
  obtain ⟨p, us, e2, sq, b⟩ := isL_sq m hd a
  subst e2
  rw [denBl b] at sq
  exact ⟨p, zs, e, sq, k μ _ _ H h (Grow.refl _ _) m (by unfold Den; rfl)⟩
end
/-! ### an instance called: o(e, ..), o(k = v, ..) -/
/-- the class has a __call__ that keeps its promise -/
structure CallC (P : Program) (w : World) (K : PySem.W.Frag) (mg : Str → Option Value) (base : Heap) (CX : CXT) (k : Nat) (qual : Str) (C : Addr) (st : Stmt) (ps : List Str) (sp : Sp) : Prop where
  ex : ∃ (f : Addr) (fd : FuncData), PySem.W.findIn K (.ref C) "__call__" = some (some (.ref f)) ∧ PySem.W.isFn K (.ref f) = true ∧ PySem.W.fnIn K f = true ∧ Fun K "__call__" qual st f fd ∧ FnOk P w K mg base CX k f fd ps sp ∧ Binds K fd ps []
theorem callX {P : Program} {w : World} {K : PySem.W.Frag} {mg : Str → Option Value} {base : Heap} {C f : Addr} {qual : Str} {st : Stmt} {N ps : List Str} {k : Nat} {Pd : PD} {fd : FuncData} (h1 : PySem.W.findIn K (.ref C) "__call__" = some (some (.ref f))) (h2 : PySem.W.isFn K (.ref f) = true) (h3 : PySem.W.fnIn K f = true)
    (F : Fun K "__call__" qual st f fd) (S : FnScope N ps (defScope st))
    (hbi : ∀ (kV doc pm : Value) (an : Option Addr) (cdv ct : Value) (us : List Value), us.length = ps.length → bindArgs (PySem.W.fnOf "__call__" qual (defArgs st) (defBody st) (defScope st) .none kV doc pm an cdv ct) ⟨us, []⟩ = pure (ps.zip us))
    (hb : ∀ (f : Addr) (cdv : Value) (A : Around) (outer : List Env) (s : Shared) (H : Hp) (E : XK), Room k (A.deeper (envOfC qual (defScope st) s.heap.objs.size f cdv)) →
      ∃ t, PSs (cxOf (L2.CX P w) P w K mg base N qual (defScope st) f cdv A outer s H E) (defBody st) t ∧ ∀ μ ds post exc, ds.length = ps.length → Pd μ ds post exc → GS K (fun cls d _ H => E cls d H) (fun m _ C d => exc m C d) μ (startD N ds) t { nx := fun m _ => post m .non, rt := post }) :
    CallC P w K mg base (L2.CX P w) (k + 1) qual C st ps (spD K ps.length Pd) := ⟨f, fd, h1, h2, h3, F, def_okX F S (hb f), F.binds hbi⟩
theorem CallC.imp {P : Program} {w : World} {K : PySem.W.Frag} {mg : Str → Option Value} {base : Heap} {CX : CXT} {k n : Nat} {qual : Str} {C : Addr} {st : Stmt} {ps : List Str} {P1 P2 : PD} (c : CallC P w K mg base CX k qual C st ps (spD K n P1)) (h : ∀ μ ds post exc, P2 μ ds post exc → P1 μ ds post exc) : CallC P w K mg base CX k qual C st ps (spD K n P2) := by
  obtain ⟨f, fd, h1, h2, h3, F, G, b⟩ := c.ex
  exact ⟨f, fd, h1, h2, h3, F, fn_imp G h, b⟩
theorem Call_kw {prog : Program} {w : World} {A : Around} {env : Env} {s : Shared} {E : Value → Shared → Prop} {func : Expr} {args : List Expr} {kws : List Keyword} {pos : Pos} {Q : Value → Shared → Prop}
    (hf : wpAny (model prog w) A (eval func env) (fun f s1 => wpAny (model prog w) A (callWith pos f [] (backTo pos (starEach args env)) (backToKw pos (keywordEach kws env))) Q E s1) E s)
    (ht : eval (.Call func args kws pos) env = (do callWith pos (← eval func env) [] (backTo pos (starEach args env)) (backToKw pos (keywordEach kws env)))) : wpAny (model prog w) A (eval (.Call func args kws pos) env) Q E s := by
  rw [ht]
  exact wpAny_bind hf
/-- the call's node where the callee is an instance, keywords too -/
theorem callO_kw {M : Model} {A : Around} {E : Value → Shared → Prop} {s : Shared} {a : Addr} {pos : Pos} {Q : Value → Shared → Prop} {args : List (Bool × Sem Value)} {kws : List (Option Str × Sem Value)} (hplain : (args.any (·.1) || kws.any (·.1.isNone)) = false)
    (h : wpAny M A (evalArgs (.ref a) true args kws) (fun z s₁ => (∃ C ox od, PySem.W.InstAt s₁.heap a ox C od ∧ ox.data = .plain) ∧ wpAny M A (call (.ref a) ([] ++ z.pos) z.kw) Q E s₁) E s) : wpAny M A (callWith pos (.ref a) [] args kws) Q E s := by
  unfold callWith
  refine wpAny_bind (wpAny_holding (wpAny_mono h (fun z s₁ h₁ => wpAny_bind (wpAny_standAt ?_)) fun _ _ y => y))
  obtain ⟨⟨C, ox, od, J, hd⟩, h₁⟩ := h₁
  have L := PySem.W.kco_keeper (M := M) J hd
  simp only [hplain]
  refine wpAny_bind (L.here ?_)
  have tail : ∀ {t : Sem Value}, wpAny M A t Q E s₁ → wpAny M A (t >>= fun r => holding [r] point >>= fun _ => pure r) Q E s₁ :=
    fun ht => wpAny_bind (wpAny_mono ht (fun r s₂ hr => wpAny_bind (wpAny_holding (wpAny_point (wpAny_pure hr)))) fun _ _ y => y)
  exact tail (wpAny_operateT h₁)
section
variable {X : Cx} {CX : CXT} {k j m : Nat} {C : Addr} {qual : Str} {st : Stmt} {fd : FuncData} {ps ks : List Str} {sp : Sp} {E : XK} {fe : Expr} {pos : Pos} {e : Expr} {es : List Expr} {tf : TE} {t tk : TA} {kws : List Keyword} {W : WX} {pm : List Nat}
theorem ins_at {pins : List (Addr × Obj)} {σ : L2.St} {H : Hp} {s : Shared} {a dx : Addr} {fs : List (Str × V)} (I : L2.Inv X pins σ H s) (h : H a = some (.ins C dx fs)) : ∃ ox od, PySem.W.InstAt s.heap a ox C od ∧ ox.data = .plain := by
  obtain ⟨mA, O, _⟩ := ins_get I.hok h
  obtain ⟨od, J, _⟩ := O.look
  exact ⟨_, _, J, rfl⟩
def tCallOS (C : Addr) (sp : Sp) (E : L2.St → XK) (tf : TE) (t : TA) : TE := fun σ H Q => tf σ H fun y H1 => ∃ a, y = V.ref a ∧ t σ H1 fun vs H2 => (∃ dx fs, H2 a = some (.ins C dx fs)) ∧ sp (V.ref a :: vs) H2 Q (E σ)
theorem pe_callOS {ES : L2.St → XK} (hf : PE X fe tf) (c : CallC X.prog X.w X.K X.mg X.base CX k qual C st ps sp) (hr : Room j X.A) (hj : k ≤ j) (hx : ∀ σ, PassesAt CX X σ (ES σ)) (ha : PA X (e :: es) t)
    (ht : eval (.Call fe (e :: es) [] pos) X.env = (do callWith pos (← eval fe X.env) [] (backTo pos (starEach (e :: es) X.env)) (backToKw pos (keywordEach [] X.env))) := by rfl)
    (he : starEach (e :: es) X.env = (false, eval e X.env) :: starEach es X.env := by rfl) (hpl : (backTo pos (starEach es X.env)).any (·.1) = false := by rfl) : PE X (.Call fe (e :: es) [] pos) (tCallOS C sp ES tf t) := by
  obtain ⟨g, fd, h1, h2, h3, _, F, b⟩ := c.ex
  refine ⟨fun pins s σ H Q I h => ?_⟩
  refine Call_ (thn (hf.run pins s σ H _ I h) fun u s1 ⟨y, H1, I1, ry, a, ey, q⟩ => ?_) ht
  subst ey
  obtain rfl : u = Value.ref a := ry
  refine StX.callO_with (thn (ha.run pos pins s1 σ H1 _ I1 q) fun us s2 ⟨vs, H2, I2, r, ⟨dx, fs, hi⟩, q2⟩ => ?_) he hpl
  obtain ⟨ox, od, J, hd⟩ := ins_at I2 hi
  refine ⟨⟨C, ox, od, J, hd⟩, wpAny_call (PySem.W.kco_code I2.kIn J hd h1 h2 h3 ?_)⟩
  have r2 : Vals (V.ref a :: vs) (Value.ref a :: us) := .cons rfl r
  have hl : (Value.ref a :: us ++ []).length = ps.length := by
    rw [List.append_nil]
    have e := r2.length
    rw [F.len _ _ _ _ q2] at e
    exact e.symm
  have hbb := b _ (Value.ref a :: us) I2.kIn hl
  rw [List.append_nil] at hbb
  refine codeAny_mono (F.run X.A X.stack s2 H2 ⟨Value.ref a :: us, []⟩ (Value.ref a :: us) _ Q (ES σ) (hr.mono hj) I2.env0 hbb r2 q2) fun r s' hq => ?_
  rcases r with e | (_ | _ | _ | u)
  · exact hx σ pins H2 s2 e s' I2 hq
  · exact False.elim hq
  · exact False.elim hq
  · exact False.elim hq
  · exact I2.after hq
def tCallOK (C : Addr) (sp : Sp) (gV : List V → List V → List V) (E : L2.St → XK) (n : Nat) (tf : TE) (tk : TA) : TE := fun σ H Q => tf σ H fun y H1 => ∃ a, y = V.ref a ∧ tk σ H1 fun zs H2 => zs.length = n ∧ (∃ dx fs, H2 a = some (.ins C dx fs)) ∧ sp (gV [V.ref a] zs) H2 Q (E σ)
theorem pe_callOK {ES : L2.St → XK} (hf : PE X fe tf) (c : CallC X.prog X.w X.K X.mg X.base CX k qual C st ps sp) (hr : Room j X.A) (hj : k ≤ j) (hx : ∀ σ, PassesAt CX X σ (ES σ)) (hm : ks.length = m)
    (h : ∀ (kV doc pv : Value) (an : Option Addr) (cdv ct : Value) (us ws : List Value), us.length = 1 → ws.length = m → bindArgs (PySem.W.fnOf "__call__" qual (defArgs st) (defBody st) (defScope st) .none kV doc pv an cdv ct) ⟨us, ks.zip ws⟩ = pure (ps.zip (pm.filterMap fun i => (us ++ ws)[i]?)))
    (hkw : PK X kws tk)
    (ht : eval (.Call fe [] kws pos) X.env = (do callWith pos (← eval fe X.env) [] (backTo pos (starEach [] X.env)) (backToKw pos (keywordEach kws X.env))) := by rfl)
    (hall : (backToKw pos (keywordEach kws X.env)).all (·.1.isSome) = true := by rfl) (hks : (backToKw pos (keywordEach kws X.env)).filterMap (·.1) = ks := by rfl)
    (hn : ((backTo pos (starEach [] X.env)).any (·.1) || (backToKw pos (keywordEach kws X.env)).any (·.1.isNone)) = false := by rfl) :
    PE X (.Call fe [] kws pos) (tCallOK C sp (permG 1 m pm) ES m tf tk) := by
  obtain ⟨g, fd, h1, h2, h3, Ff, F, b⟩ := c.ex
  refine ⟨fun pins s σ H Q I h0 => ?_⟩
  refine Call_kw (thn (hf.run pins s σ H _ I h0) fun u s1 ⟨y, H1, I1, ry, a, ey, q⟩ => ?_) ht
  subst ey
  obtain rfl : u = Value.ref a := ry
  refine callO_kw hn (PyProof.Rows.evalArgs_kw2_nil hall (thn (hkw.run pos pins s1 σ H1 _ I1 q) fun ws s2 ⟨zs, H2, I2, rz, hz, ⟨dx, fs, hi⟩, q2⟩ => ?_))
  obtain ⟨ox, od, J, hd⟩ := ins_at I2 hi
  refine ⟨⟨C, ox, od, J, hd⟩, wpAny_call (PySem.W.kco_code I2.kIn J hd h1 h2 h3 ?_)⟩
  have kb := kbn_of (n := 1) (m := m) (pm := pm) (ks := ks) Ff hm h
  rw [hks]
  have r1 : Vals [V.ref a] [Value.ref a] := .cons rfl .nil
  refine codeAny_mono (F.run X.A X.stack s2 H2 ⟨[Value.ref a], ks.zip ws⟩ _ _ Q (ES σ) (hr.mono hj) I2.env0 (kb.to _ [Value.ref a] ws I2.kIn rfl (by rw [← rz.length, hz, hm])) (kb.rel r1 rz) q2) fun r s' hq => ?_
  rcases r with e | (_ | _ | _ | u)
  · exact hx σ pins H2 s2 e s' I2 hq
  · exact False.elim hq
  · exact False.elim hq
  · exact False.elim hq
  · exact I2.after hq
theorem pe_oS (hf : PE X fe tf) (c : CallC X.prog X.w X.K X.mg X.base (L2.CX X.prog X.w) k qual C st ps sp) (hr : Room j X.A) (hj : k ≤ j) (tw : Takes X W) (ha : PA X (e :: es) t)
    (ht : eval (.Call fe (e :: es) [] pos) X.env = (do callWith pos (← eval fe X.env) [] (backTo pos (starEach (e :: es) X.env)) (backToKw pos (keywordEach [] X.env))) := by rfl)
    (he : starEach (e :: es) X.env = (false, eval e X.env) :: starEach es X.env := by rfl) (hpl : (backTo pos (starEach es X.env)).any (·.1) = false := by rfl) : PE X (.Call fe (e :: es) [] pos) (tCallOS C sp (WE W) tf t) :=
  pe_callOS hf c hr hj (fun σ => passAt tw σ) ha ht he hpl
theorem pe_oK (hf : PE X fe tf) (c : CallC X.prog X.w X.K X.mg X.base (L2.CX X.prog X.w) k qual C st ps sp) (hr : Room j X.A) (hj : k ≤ j) (tw : Takes X W) (hm : ks.length = m)
    (h : ∀ (kV doc pv : Value) (an : Option Addr) (cdv ct : Value) (us ws : List Value), us.length = 1 → ws.length = m → bindArgs (PySem.W.fnOf "__call__" qual (defArgs st) (defBody st) (defScope st) .none kV doc pv an cdv ct) ⟨us, ks.zip ws⟩ = pure (ps.zip (pm.filterMap fun i => (us ++ ws)[i]?)))
    (hkw : PK X kws tk)
    (ht : eval (.Call fe [] kws pos) X.env = (do callWith pos (← eval fe X.env) [] (backTo pos (starEach [] X.env)) (backToKw pos (keywordEach kws X.env))) := by rfl)
    (hall : (backToKw pos (keywordEach kws X.env)).all (·.1.isSome) = true := by rfl) (hks : (backToKw pos (keywordEach kws X.env)).filterMap (·.1) = ks := by rfl)
    (hn : ((backTo pos (starEach [] X.env)).any (·.1) || (backToKw pos (keywordEach kws X.env)).any (·.1.isNone)) = false := by rfl) :
    PE X (.Call fe [] kws pos) (tCallOK C sp (permG 1 m pm) (WE W) m tf tk) :=
  pe_callOK hf c hr hj (fun σ => passAt tw σ) hm h hkw ht hall hks hn
end
section
variable {K : PySem.W.Frag} {W : WX} {X : XD} {μ : Mu} {ρ : Ro} {Φ : DP} {C : Addr} {n m a b : Nat} {pm : List Nat} {P : PD} {tf : TE} {t tk : TA}
theorem ref_of {C' : Addr} {x : D} {v : V} {H : Hp} {fs : List Str} {es : List D} (m : Mem K μ H) (hx : ObjD μ x C' fs es) (dv : Den K μ H x v) : ∃ p, v = .ref p := by
  obtain ⟨p, _, _, e, _⟩ := hx.hp m dv
  exact ⟨p, e⟩
theorem evx_oS (h : EvX K W X μ ρ tf fun μ0 x => (∃ C' fs es, ObjD μ0 x C' fs es) ∧ EvL K W X μ0 ρ t fun μ1 ds => (∃ fs es, ObjD μ1 x C fs es) ∧ ds.length + 1 = n ∧ P μ1 (x :: ds) Φ fun μ' A d => X μ' ρ A d) : EvX K W X μ ρ (tCallOS C (spD K n P) (WE W) tf t) Φ := fun σ H Q m0 e l k =>
  h σ H _ m0 e l fun μ1 x v H1 ⟨⟨C', fs', es', ho⟩, h1⟩ g1 m1 d1 => by
    obtain ⟨p, e1⟩ := ref_of m1 ho d1
    refine ⟨p, e1, h1 σ H1 _ m1 (e.grow g1) (l.grow g1) fun μ2 ds vs H2 ⟨⟨fs, es, ho2⟩, hl, hp⟩ g2 m2 d2 => ?_⟩
    subst e1
    have dx := Den.grow g2 _ _ d1
    obtain ⟨p', dx', gs, e2, hi⟩ := obj_at m2 ho2 dx
    cases e2
    have gg := g1.trans g2
    exact ⟨⟨dx', gs, hi⟩, μ2, x :: ds, Φ, _, m2, DenL.cons dx d2, by rw [List.length_cons]; exact hl, hp, fun μ' d v H' p g => k μ' d v H' p (gg.trans g), fun μ' A d dx v H' p g mm => l μ' ρ A d dx v σ H' p (gg.trans g) mm ((e.grow gg).grow g)⟩
theorem evx_oK (h : EvX K W X μ ρ tf fun μ0 x => (∃ C' fs es, ObjD μ0 x C' fs es) ∧ EvL K W X μ0 ρ tk fun μ1 ds => ds.length = m ∧ (∃ fs es, ObjD μ1 x C fs es) ∧ (permG a b pm [x] ds).length = n ∧ P μ1 (permG a b pm [x] ds) Φ fun μ' A d => X μ' ρ A d) : EvX K W X μ ρ (tCallOK C (spD K n P) (permG a b pm) (WE W) m tf tk) Φ := fun σ H Q m0 e l k =>
  h σ H _ m0 e l fun μ1 x v H1 ⟨⟨C', fs', es', ho⟩, h1⟩ g1 m1 d1 => by
    obtain ⟨p, e1⟩ := ref_of m1 ho d1
    refine ⟨p, e1, h1 σ H1 _ m1 (e.grow g1) (l.grow g1) fun μ2 ds vs H2 ⟨hm, ⟨fs, es, ho2⟩, hl, hp⟩ g2 m2 d2 => ?_⟩
    subst e1
    have dx := Den.grow g2 _ _ d1
    obtain ⟨p', dx', gs, e2, hi⟩ := obj_at m2 ho2 dx
    cases e2
    have gg := g1.trans g2
    exact ⟨by rw [← d2.length]; exact hm, ⟨dx', gs, hi⟩, μ2, _, Φ, _, m2, permG_den (DenL.cons dx DenL.nil) d2, hl, hp, fun μ' d v H' p g => k μ' d v H' p (gg.trans g), fun μ' A d dx v H' p g mm => l μ' ρ A d dx v σ H' p (gg.trans g) mm ((e.grow gg).grow g)⟩
end
section
variable {K : PySem.W.Frag} {μ : Mu} {x y : D} {Φ : DP} {xs ys : List D}
/-- [..] * n, a list that will change -/
theorem opx_repM {n : Int} (hx : Real μ x xs) (h1 : -(2 ^ 63) ≤ n) (h2 : n < 2 ^ 63) (hl : xs.length * n.toNat ≤ 1000000) (h : ∀ p, μ p = none → Φ (mput μ p (.lst (List.replicate n.toNat xs).flatten)) (.at p)) : OpX K rRep μ x (.int n) Φ := fun H v w Q m a b k => by
  obtain ⟨p, us, e1, q1, b1⟩ := hx.hp m a
  subst e1
  unfold Den at b
  exact ⟨p, n, us, rfl, b, q1, h1, h2, by rw [← b1.length]; exact Nat.le_trans hl (by decide), fun p' hp => k _ _ _ _ (h p' (m.free hp)) (Grow.newM hp) (m.newM hp ⟨_, upd_same, DenL.grow (Grow.newM hp) _ _ (b1.rep _)⟩) (by unfold Den; rfl)⟩
/-- xs + ys, a list that will change -/
theorem opx_catM (hx : Real μ x xs) (hy : Real μ y ys) (hl : xs.length + ys.length ≤ 1000000) (h : ∀ p, μ p = none → Φ (mput μ p (.lst (xs ++ ys))) (.at p)) : OpX K rCat μ x y Φ := fun H v w Q m a b k => by
  obtain ⟨p, us, e1, q1, b1⟩ := hx.hp m a
  obtain ⟨p2, us2, e2, q2, b2⟩ := hy.hp m b
  subst e1 e2
  exact ⟨p, p2, us, us2, rfl, rfl, q1, q2, by rw [← b1.length, ← b2.length]; exact Nat.le_trans hl (by decide), fun p' hp => k _ _ _ _ (h p' (m.free hp)) (Grow.newM hp) (m.newM hp ⟨_, upd_same, DenL.grow (Grow.newM hp) _ _ (b1.append b2)⟩) (by unfold Den; rfl)⟩
end
theorem rep_flat {α : Type} (n : Nat) (x : α) : (List.replicate n [x]).flatten = List.replicate n x := by
  induction n with
  | zero => rfl
  | succ n ih => rw [List.replicate_succ, List.flatten_cons, ih, List.replicate_succ]; rfl
theorem mcut_put {μ : Mu} {p : Addr} {o : MO} (h : μ p = none) : mcut (mput μ p o) p = μ := by
  funext b
  by_cases hb : b = p
  · subst hb; rw [mcut_same, h]
  · rw [mcut_ne hb, mput_ne hb]
theorem mput_put {μ : Mu} {p : Addr} {o o' : MO} : mput (mput μ p o) p o' = mput μ p o' := by
  funext b
  by_cases hb : b = p
  · subst hb; rw [mput_same, mput_same]
  · rw [mput_ne hb, mput_ne hb, mput_ne hb]
/-! ### a def that may raise, where it raises nothing -/
section
variable {P : Program} {w : World} {K : PySem.W.Frag} {mg : Str → Option Value} {base : Heap} {k n : Nat} {f C : Addr} {fd : FuncData} {ps : List Str} {Pd P0 : PD} {x qual m : Str} {st : Stmt}
theorem fnX_0 (F : FnOk P w K mg base (L2.CX P w) k f fd ps (spD K n Pd)) (h : ∀ μ ds post exc, P0 μ ds post exc → Pd μ ds post excN) : FnOk P w K mg base CX0 k f fd ps (spD K n P0) := by
  have key : ∀ vs H Q E, spD K n P0 vs H Q E → spD K n Pd vs H Q fun _ _ _ => False := fun vs H Q E ⟨μ, ds, post, exc, m, d, hl, hp, h1, _⟩ => ⟨μ, ds, post, excN, m, d, hl, h _ _ _ _ hp, h1, fun _ _ _ _ _ _ z => z.elim⟩
  refine ⟨fun vs H Q E hs => F.len _ _ _ _ (key vs H Q E hs), fun A outer s H args us vs Q E hr he hb hv hs => ?_⟩
  refine codeAny_mono (F.run A outer s H args us vs Q _ hr he hb hv (key vs H Q E hs)) fun r s' hq => ?_
  cases r with
  | error e =>
    obtain ⟨_, _, _, _, _, _, _, _, _, _, _, _, hE⟩ := hq
    exact hE.elim
  | ok fl => cases fl <;> exact hq
theorem Cal.to0 (c : Cal P w K mg base (L2.CX P w) k x st ps (spD K n Pd)) (h : ∀ μ ds post exc, P0 μ ds post exc → Pd μ ds post excN) : Cal P w K mg base CX0 k x st ps (spD K n P0) := by
  obtain ⟨f, fd, h1, F, G, b⟩ := c.ex
  exact ⟨f, fd, h1, F, fnX_0 G h, b⟩
theorem MkC.to0 (c : MkC P w K mg base (L2.CX P w) k x qual C st ps (spD K n Pd)) (h : ∀ μ ds post exc, P0 μ ds post exc → Pd μ ds post excN) : MkC P w K mg base CX0 k x qual C st ps (spD K n P0) := by
  obtain ⟨f, fd, h1, M, F, G, b⟩ := c.ex
  exact ⟨f, fd, h1, M, F, fnX_0 G h, b⟩
theorem Met.to0 (c : Met P w K mg base (L2.CX P w) k C m ps (spD K n Pd)) (h : ∀ μ ds post exc, P0 μ ds post exc → Pd μ ds post excN) : Met P w K mg base CX0 k C m ps (spD K n P0) := by
  obtain ⟨f, fd, h1, h2, h3, G, b⟩ := c.ex
  exact ⟨f, fd, h1, h2, h3, fnX_0 G h, b⟩
theorem CallC.to0 (c : CallC P w K mg base (L2.CX P w) k qual C st ps (spD K n Pd)) (h : ∀ μ ds post exc, P0 μ ds post exc → Pd μ ds post excN) : CallC P w K mg base CX0 k qual C st ps (spD K n P0) := by
  obtain ⟨f, fd, h1, h2, h3, F, G, b⟩ := c.ex
  exact ⟨f, fd, h1, h2, h3, F, fnX_0 G h, b⟩
end
section
variable {X : Cx} {k j m : Nat} {C : Addr} {qual : Str} {st : Stmt} {ps ks : List Str} {sp : Sp} {fe : Expr} {pos : Pos} {e : Expr} {es : List Expr} {tf : TE} {t tk : TA} {kws : List Keyword} {pm : List Nat}
/-- o(e, ..), no error leaves it -/
theorem pe_o0 (hf : PE X fe tf) (c : CallC X.prog X.w X.K X.mg X.base CX0 k qual C st ps sp) (hr : Room j X.A) (hj : k ≤ j) (ha : PA X (e :: es) t)
    (ht : eval (.Call fe (e :: es) [] pos) X.env = (do callWith pos (← eval fe X.env) [] (backTo pos (starEach (e :: es) X.env)) (backToKw pos (keywordEach [] X.env))) := by rfl)
    (he : starEach (e :: es) X.env = (false, eval e X.env) :: starEach es X.env := by rfl) (hpl : (backTo pos (starEach es X.env)).any (·.1) = false := by rfl) : PE X (.Call fe (e :: es) [] pos) (tCallOS C sp (fun _ => E0) tf t) :=
  pe_callOS hf c hr hj (fun σ pins H s e s' I q => q.elim) ha ht he hpl
theorem pe_oK0 (hf : PE X fe tf) (c : CallC X.prog X.w X.K X.mg X.base CX0 k qual C st ps sp) (hr : Room j X.A) (hj : k ≤ j) (hm : ks.length = m)
    (h : ∀ (kV doc pv : Value) (an : Option Addr) (cdv ct : Value) (us ws : List Value), us.length = 1 → ws.length = m → bindArgs (PySem.W.fnOf "__call__" qual (defArgs st) (defBody st) (defScope st) .none kV doc pv an cdv ct) ⟨us, ks.zip ws⟩ = pure (ps.zip (pm.filterMap fun i => (us ++ ws)[i]?)))
    (hkw : PK X kws tk)
    (ht : eval (.Call fe [] kws pos) X.env = (do callWith pos (← eval fe X.env) [] (backTo pos (starEach [] X.env)) (backToKw pos (keywordEach kws X.env))) := by rfl)
    (hall : (backToKw pos (keywordEach kws X.env)).all (·.1.isSome) = true := by rfl) (hks : (backToKw pos (keywordEach kws X.env)).filterMap (·.1) = ks := by rfl)
    (hn : ((backTo pos (starEach [] X.env)).any (·.1) || (backToKw pos (keywordEach kws X.env)).any (·.1.isNone)) = false := by rfl) :
    PE X (.Call fe [] kws pos) (tCallOK C sp (permG 1 m pm) (fun _ => E0) m tf tk) :=
  pe_callOK hf c hr hj (fun σ pins H s e s' I q => q.elim) hm h hkw ht hall hks hn
end
section
variable {K : PySem.W.Frag} {W : WX} {X : XD} {μ : Mu} {ρ : Ro} {Φ : DP} {C : Addr} {n m a b : Nat} {pm : List Nat} {P : PD} {tf : TE} {t tk : TA}
theorem evx_o0 (h : EvX K W X μ ρ tf fun μ0 x => (∃ C' fs es, ObjD μ0 x C' fs es) ∧ EvL K W X μ0 ρ t fun μ1 ds => (∃ fs es, ObjD μ1 x C fs es) ∧ ds.length + 1 = n ∧ P μ1 (x :: ds) Φ excN) : EvX K W X μ ρ (tCallOS C (spD K n P) (fun _ => E0) tf t) Φ := fun σ H Q m0 e l k =>
  h σ H _ m0 e l fun μ1 x v H1 ⟨⟨C', fs', es', ho⟩, h1⟩ g1 m1 d1 => by
    obtain ⟨p, e1⟩ := ref_of m1 ho d1
    refine ⟨p, e1, h1 σ H1 _ m1 (e.grow g1) (l.grow g1) fun μ2 ds vs H2 ⟨⟨fs, es, ho2⟩, hl, hp⟩ g2 m2 d2 => ?_⟩
    subst e1
    have dx := Den.grow g2 _ _ d1
    obtain ⟨p', dx', gs, e2, hi⟩ := obj_at m2 ho2 dx
    cases e2
    have gg := g1.trans g2
    exact ⟨⟨dx', gs, hi⟩, μ2, x :: ds, Φ, _, m2, DenL.cons dx d2, by rw [List.length_cons]; exact hl, hp, fun μ' d v H' p g => k μ' d v H' p (gg.trans g), fun _ _ _ _ _ _ z => z.elim⟩
theorem evx_oK0 (h : EvX K W X μ ρ tf fun μ0 x => (∃ C' fs es, ObjD μ0 x C' fs es) ∧ EvL K W X μ0 ρ tk fun μ1 ds => ds.length = m ∧ (∃ fs es, ObjD μ1 x C fs es) ∧ (permG a b pm [x] ds).length = n ∧ P μ1 (permG a b pm [x] ds) Φ excN) : EvX K W X μ ρ (tCallOK C (spD K n P) (permG a b pm) (fun _ => E0) m tf tk) Φ := fun σ H Q m0 e l k =>
  h σ H _ m0 e l fun μ1 x v H1 ⟨⟨C', fs', es', ho⟩, h1⟩ g1 m1 d1 => by
    obtain ⟨p, e1⟩ := ref_of m1 ho d1
    refine ⟨p, e1, h1 σ H1 _ m1 (e.grow g1) (l.grow g1) fun μ2 ds vs H2 ⟨hm, ⟨fs, es, ho2⟩, hl, hp⟩ g2 m2 d2 => ?_⟩
    subst e1
    have dx := Den.grow g2 _ _ d1
    obtain ⟨p', dx', gs, e2, hi⟩ := obj_at m2 ho2 dx
    cases e2
    have gg := g1.trans g2
    exact ⟨by rw [← d2.length]; exact hm, ⟨dx', gs, hi⟩, μ2, _, Φ, _, m2, permG_den (DenL.cons dx DenL.nil) d2, hl, hp, fun μ' d v H' p g => k μ' d v H' p (gg.trans g), fun _ _ _ _ _ _ z => z.elim⟩
end
/-! ### text * int -/
def rMulS : R2 := fun x y H Q => ∃ a n, x = .str a ∧ y = .int n ∧ MulOk a n ∧ Q (.str (Txt.mul a n)) H
theorem op_mulS {X : Cx} : OpR X (binaryOp .Mult) rMulS := by
  intro pins s σ H x y v u Q I rx ry h
  obtain ⟨a, n, rfl, rfl, hz, q⟩ := h
  obtain ⟨t, rfl⟩ := rx
  obtain ⟨t', rfl⟩ := ry
  exact SB.mul hz fun t' tk => ⟨.str _, H, I.tok _, ⟨_, rfl⟩, q⟩
theorem mulOk {a : Str} {n : Int} (h0 : 0 ≤ n) (h1 : n ≤ 10000) (h2 : a.length ≤ 1000) : MulOk a n := by
  refine ⟨?_, fun h _ => ?_, fun h _ => ?_⟩
  · rw [Bool.or_eq_false_iff, decide_eq_false_iff_not, decide_eq_false_iff_not]
    omega
  · have h3 : (1000 : Int) ≤ (2 ^ 63 - 1) / n := by
      rw [Int.le_ediv_iff_mul_le (by omega)]
      omega
    omega
  · have h3 : a.length * n.toNat ≤ 1000 * 10000 := Nat.mul_le_mul h2 (by omega)
    unfold Builtin.Str.tooLong
    rw [decide_eq_false_iff_not]
    have e : sizeLine = 16777216 := by decide
    omega
theorem fold_app (z : Array Nat) : ∀ (n : Nat) (acc : Array Nat), ((List.replicate n z).foldl (· ++ ·) acc).toList = acc.toList ++ (List.replicate n z.toList).flatten
  | 0, acc => by simp
  | n + 1, acc => by
    rw [List.replicate_succ, List.foldl_cons, fold_app z n, List.replicate_succ, List.flatten_cons, Array.toList_append, List.append_assoc]
theorem mul_cps {a : Str} {n : Int} (h0 : 0 ≤ n) : (Txt.mul a n).cps.toList = (List.replicate n.toNat a.cps.toList).flatten := by
  unfold Txt.mul
  by_cases h1 : n < 1
  · rw [if_pos h1]
    have : n.toNat = 0 := by omega
    rw [this]; rfl
  · rw [if_neg h1]
    by_cases h2 : (n == 1 || a.length == 0) = true
    · rw [if_pos h2]
      rw [Bool.or_eq_true, beq_iff_eq, beq_iff_eq] at h2
      rcases h2 with h2 | h2
      · subst h2
        show a.cps.toList = (List.replicate 1 a.cps.toList).flatten
        simp
      · have : a.cps.toList = [] := List.eq_nil_of_length_eq_zero (by rw [Array.length_toList]; exact h2)
        rw [this]
        generalize n.toNat = k
        induction k with
        | zero => rfl
        | succ k ih => rw [List.replicate_succ, List.flatten_cons, ← ih]; rfl
    · rw [if_neg h2]
      have := fold_app a.cps n.toNat #[]
      simpa using this
section
variable {K : PySem.W.Frag} {μ : Mu} {x y : D} {Φ : DP} {xs ys : List D}
theorem opx_mulS {a : Str} {n : Int} (h0 : 0 ≤ n) (h1 : n ≤ 10000) (h2 : a.length ≤ 1000) (h : Φ μ (.str (Txt.mul a n))) : OpX K rMulS μ (.str a) (.int n) Φ := fun H v w Q m p q k => by
  unfold Den at p q
  exact ⟨a, n, p, q, mulOk h0 h1 h2, k μ _ _ H h (Grow.refl _ _) m (by unfold Den; rfl)⟩
/-- a tuple + a tuple -/
theorem opx_catT {x1 : D} (hl : (x1 :: xs).length + ys.length ≤ 1000000) (h : Φ μ (.tup ((x1 :: xs) ++ ys))) : OpX K (rCatT K) μ (.tup (x1 :: xs)) (.tup ys) Φ := fun H v w Q m a b k => by
  unfold Den at a b
  obtain ⟨p, us, e1, s1, b1⟩ := a
  obtain ⟨q, ws, e2, s2, b2⟩ := b
  subst e1 e2
  have l1 := b1.length
  have l2 := b2.length
  refine ⟨p, q, us, ws, rfl, rfl, s1.sq, s2.sq, ?_, by rw [← l1, ← l2]; exact Nat.le_trans hl (by decide), fun hy => ?_, fun _ p' hp => ?_⟩
  · intro z
    rw [z] at l1
    exact nomatch l1
  · subst hy
    have : ys = [] := List.eq_nil_of_length_eq_zero l2
    subst this
    rw [List.append_nil] at h
    exact k μ _ _ H h (Grow.refl _ _) m (by unfold Den; exact ⟨p, us, rfl, s1, b1⟩)
  · exact k μ _ _ _ h (Grow.new hp) (m.new hp) (by
      unfold Den
      exact ⟨p', _, rfl, .inl ⟨m.free hp, .inl upd_same⟩, DenL.grow (Grow.new hp) _ _ (b1.append b2)⟩)
/-- min of three -/
theorem cax_min3 {i j l : Int} (h : Φ μ (.int (if l < (if j < i then j else i) then l else (if j < i then j else i)))) : CaX K (rNuC3 nuMin3) μ [.int i, .int j, .int l] Φ := fun H vs Q m d k => by
  unfold DenL at d
  obtain ⟨v, ws, e, a, b⟩ := d
  obtain ⟨v2, v3, e2, a2, a3⟩ := denL2 b
  unfold Den at a a2 a3
  subst a a2 a3 e2 e
  refine ⟨_, _, _, .int (if l < (if j < i then j else i) then l else (if j < i then j else i)), rfl, ?_, k μ _ _ H h (Grow.refl _ _) m (by unfold Den; rfl)⟩
  unfold nuMin3 nuMin2 nuLt nuCB
  by_cases h1 : j < i
  · by_cases h2 : l < j
    · simp [h1, h2]
    · simp [h1, h2]
  · by_cases h2 : l < i
    · simp [h1, h2]
    · simp [h1, h2]
end
/-! ### sorted of data -/
def rSortedD (K : PySem.W.Frag) : List V → Hp → VK → Prop := fun xs H Q => ∃ (a : Addr) (vs : List V) (ds : List PyData), xs = [.ref a] ∧ SqL K H a vs ∧ DpAll K H vs ds ∧ PySem.W.AllAlike ds ∧ PySem.W.Sortable ds ∧ (∀ d ∈ ds, d.depth ≤ 60) ∧
  ∀ p, H p = none → Q (.ref p) (upd H p (.lst (((vs.zip ds).mergeSort (PySem.W.dataLe false Prod.snd)).map Prod.fst)))
theorem each_zip {K : PySem.W.Frag} {H : Hp} : ∀ {vs : List V} {us : List Value} {ds : List PyData}, Vals vs us → DpAll K H vs ds → PySem.W.EachIs (fun (u : Value) (b : V × PyData) => RelV b.1 u) us (vs.zip ds) ∧ (vs.zip ds).map Prod.snd = ds ∧ (vs.zip ds).map Prod.fst = vs
  | _, _, _, .nil, .nil => ⟨.nil, rfl, rfl⟩
  | _, _, _, .cons r rs, .cons d dd => by
    obtain ⟨h1, h2, h3⟩ := each_zip rs dd
    exact ⟨.cons r h1, by rw [List.zip_cons_cons, List.map_cons, h2], by rw [List.zip_cons_cons, List.map_cons, h3]⟩
theorem each_reads {X : Cx} {pins : List (Addr × Obj)} {σ : L2.St} {H : Hp} {s : Shared} (I : L2.Inv X pins σ H s) : ∀ {vs : List V} {us : List Value} {ds : List PyData}, Vals vs us → DpAll X.K H vs ds → PySem.W.EachIs (fun (u : Value) (b : V × PyData) => ∃ as, Reads s.heap u b.2 as) us (vs.zip ds)
  | _, _, _, .nil, .nil => .nil
  | _, _, _, .cons r rs, .cons d dd => .cons (Dp.reads I _ _ _ d r) (each_reads I rs dd)
theorem each_vals : ∀ {us : List Value} {bs : List (V × PyData)}, PySem.W.EachIs (fun (u : Value) (b : V × PyData) => RelV b.1 u) us bs → Vals (bs.map Prod.fst) us
  | _, _, .nil => .nil
  | _, _, .cons r rs => .cons r (each_vals rs)
theorem cr_sortedD {X : Cx} (hu : X.A.units + 64 < cLine) : CallR X (.builtin "sorted") (rSortedD X.K) := by
  intro pins s σ H xs us Q I rx h
  obtain ⟨a, vs, ds, rfl, hs, hd, ha, hso, hdep, q⟩ := h
  obtain ⟨u, rfl, r⟩ := vals1 rx
  obtain rfl : u = Value.ref a := r
  obtain ⟨its, rv, ⟨o, n, g1, g2, g3, g4⟩, hl⟩ := I.list hs
  obtain ⟨e1, e2, e3⟩ := each_zip rv hd
  have e4 := each_reads I rv hd
  refine PySem.W.sorted_data (vs := its) (bs := vs.zip ds) (enc := Prod.snd) (R := fun u b => RelV b.1 u) ⟨o, g1, g2, n, g4⟩ e1 e4 (by rw [e2]; exact ha) (by rw [e2]; exact hso) ?_ (fun b hb => ?_) fun out hlen he => ?_
  · have e := congrArg List.length e3
    rw [List.length_map] at e
    rw [e]; exact hl
  · have : b.2 ∈ ds := by rw [← e2]; exact List.mem_map.mpr ⟨b, hb, rfl⟩
    have := hdep _ this
    show X.A.units + 2 + _ < cLine
    omega
  · have hv := each_vals he
    have hf : H (s.heap.objs.size + 1) = none := by
      cases hx : H (s.heap.objs.size + 1) with
      | none => rfl
      | some o => exact absurd (I.hok.lt hx) (Nat.not_lt.mpr (Nat.le_succ _))
    refine ⟨.ref (s.heap.objs.size + 1), _, I.laid (fun b u hb => sortedAll_old hb) (Nat.le_succ _) (o := .lst _) ?_, rfl, q _ hf⟩
    obtain ⟨e, he⟩ := sortedAll_at s.heap its out.toArray
    unfold ObjOk
    refine ⟨?_, out, e, hv, he⟩
    rw [List.length_map, List.length_mergeSort]
    have e := congrArg List.length e3
    rw [List.length_map] at e
    rw [e]; exact hl
section
variable {K : PySem.W.Frag} {W : WX} {X : XD} {μ μ' : Mu} {H H' : Hp} {Φ : DP} {x : D} {ds : List D}
theorem dps_of {pd : D → PyData} : ∀ {ds : List D} {vs : List V}, (∀ d ∈ ds, ∀ v, Den K μ H d v → Dp K H v (pd d)) → DenL K μ H ds vs → DpAll K H vs (ds.map pd)
  | [], vs, _, h => by unfold DenL at h; subst h; exact .nil
  | d :: ds, vs, hp, h => by
    unfold DenL at h
    obtain ⟨w, ws, e, a, b⟩ := h
    subst e
    exact .cons (hp d (List.mem_cons_self ..) w a) (dps_of (fun e he => hp e (List.mem_cons_of_mem _ he)) b)
theorem zip_maps {pd : D → PyData} : ∀ {ds : List D} {vs : List V}, DenL K μ H ds vs → vs.zip (ds.map pd) = (vs.zip ds).map (fun t => (t.1, pd t.2)) ∧ (vs.zip ds).map Prod.snd = ds ∧ ∀ t ∈ vs.zip ds, Den K μ H t.2 t.1
  | [], vs, h => by unfold DenL at h; subst h; exact ⟨rfl, rfl, fun _ h => nomatch h⟩
  | d :: ds, vs, h => by
    unfold DenL at h
    obtain ⟨w, ws, e, a, b⟩ := h
    subst e
    obtain ⟨h1, h2, h3⟩ := zip_maps (pd := pd) b
    refine ⟨by rw [List.map_cons, List.zip_cons_cons, List.zip_cons_cons, List.map_cons, h1], by rw [List.zip_cons_cons, List.map_cons, h2], fun t ht => ?_⟩
    rw [List.zip_cons_cons] at ht
    rcases List.mem_cons.mp ht with rfl | ht
    · exact a
    · exact h3 t ht
theorem denL_ts : ∀ {ts : List (V × D)}, (∀ t ∈ ts, Den K μ H t.2 t.1) → DenL K μ H (ts.map Prod.snd) (ts.map Prod.fst)
  | [], _ => by unfold DenL; rfl
  | t :: ts, h => by
    rw [List.map_cons, List.map_cons]
    exact DenL.cons (h t (List.mem_cons_self ..)) (denL_ts fun e he => h e (List.mem_cons_of_mem _ he))
/-- the sorted list -/
def sortD (pd : D → PyData) (ds : List D) : List D := ds.mergeSort (PySem.W.dataLe false pd)
theorem sort_den {pd : D → PyData} {ds : List D} {vs : List V} (h : DenL K μ H ds vs) : DenL K μ H (sortD pd ds) (((vs.zip (ds.map pd)).mergeSort (PySem.W.dataLe false Prod.snd)).map Prod.fst) := by
  obtain ⟨h1, h2, h3⟩ := zip_maps (pd := pd) h
  have e1 : (vs.zip (ds.map pd)).mergeSort (PySem.W.dataLe false Prod.snd) = ((vs.zip ds).mergeSort (fun a b => PySem.W.dataLe false pd a.2 b.2)).map (fun t => (t.1, pd t.2)) := by
    rw [h1]
    exact (PySem.W.sort_maps (r := fun a b => PySem.W.dataLe false pd a.2 b.2) (s := PySem.W.dataLe false Prod.snd) (fun t : V × D => (t.1, pd t.2)) fun a _ b _ => rfl).symm
  have e2 : sortD pd ds = ((vs.zip ds).mergeSort (fun a b => PySem.W.dataLe false pd a.2 b.2)).map Prod.snd := by
    unfold sortD
    conv => lhs; rw [← h2]
    exact (PySem.W.sort_maps (r := fun a b => PySem.W.dataLe false pd a.2 b.2) (s := PySem.W.dataLe false pd) (Prod.snd : V × D → D) fun a _ b _ => rfl).symm
  rw [e1, e2, List.map_map]
  exact denL_ts fun t ht => h3 t (List.mem_mergeSort.mp ht)
theorem cax_sortedD {S : Mu → Prop} (pd : D → PyData) (hd : IsL μ x ds S) (hp : ∀ d ∈ ds, ∀ H v, Mem K μ H → Den K μ H d v → Dp K H v (pd d)) (ha : PySem.W.AllAlike (ds.map pd)) (hs : PySem.W.Sortable (ds.map pd)) (hdep : ∀ d ∈ ds, (pd d).depth ≤ 60) (h : Φ μ (.lst (sortD pd ds))) : CaX K (rSortedD K) μ [x] Φ := fun H vs Q m d k => by
  obtain ⟨v, e, a⟩ := denL1 d
  obtain ⟨p, us, e2, sq, b⟩ := isL_sq m hd a
  subst e2
  exact ⟨p, us, ds.map pd, e, sq, dps_of (fun d hd v hv => hp d hd H v m hv) b, ha, hs, fun d hd => by
    obtain ⟨y, hy, rfl⟩ := List.mem_map.mp hd
    exact hdep y hy, fun l hl => k _ _ _ _ h (Grow.new hl) (m.new hl) (by
    unfold Den
    exact ⟨l, _, rfl, ⟨m.free hl, upd_same⟩, DenL.grow (Grow.new hl) _ _ (sort_den b)⟩)⟩
theorem cax_sortedDM {S : Mu → Prop} (pd : D → PyData) (hd : IsL μ x ds S) (hp : ∀ d ∈ ds, ∀ H v, Mem K μ H → Den K μ H d v → Dp K H v (pd d)) (ha : PySem.W.AllAlike (ds.map pd)) (hs : PySem.W.Sortable (ds.map pd)) (hdep : ∀ d ∈ ds, (pd d).depth ≤ 60) (h : ∀ l, μ l = none → Φ (mput μ l (.lst (sortD pd ds))) (.at l)) : CaX K (rSortedD K) μ [x] Φ := fun H vs Q m d k => by
  obtain ⟨v, e, a⟩ := denL1 d
  obtain ⟨p, us, e2, sq, b⟩ := isL_sq m hd a
  subst e2
  exact ⟨p, us, ds.map pd, e, sq, dps_of (fun d hd v hv => hp d hd H v m hv) b, ha, hs, fun d hd => by
    obtain ⟨y, hy, rfl⟩ := List.mem_map.mp hd
    exact hdep y hy, fun l hl => k _ _ _ _ (h l (m.free hl)) (Grow.newM hl) (m.newM hl ⟨_, upd_same, DenL.grow (Grow.newM hl) _ _ (sort_den b)⟩) (by unfold Den; rfl)⟩
end
/-! ### live data seen as it is now -/
def muN : Mu := fun _ => none
mutual
/-- the data with all lists of the store written out, n deep -/
def seeF (μ : Mu) : Nat → D → D
  | 0, d => d
  | n + 1, .at a => match μ a with
    | some (.lst ds) => .lst (seeFs μ n ds)
    | _ => .at a
  | n + 1, .tup ds => .tup (seeFs μ n ds)
  | n + 1, .lst ds => .lst (seeFs μ n ds)
  | _ + 1, d => d
def seeFs (μ : Mu) : Nat → List D → List D
  | _, [] => []
  | n, d :: ds => seeF μ n d :: seeFs μ n ds
end
theorem seeFs_map (μ : Mu) (n : Nat) : ∀ ds : List D, seeFs μ n ds = ds.map (seeF μ n)
  | [] => by cases n <;> (unfold seeFs; rfl)
  | d :: ds => by
    have ih := seeFs_map μ n ds
    cases n <;> (unfold seeFs; rw [ih]; rfl)
section
variable {K : PySem.W.Frag} {μ μ' : Mu} {H H' : Hp} {W : WX} {X : XD} {ρ : Ro} {Φ : DP} {x y : D} {te : TE} {tr tk : TA} {n : Nat} {P : PD}
theorem less_muN : Less μ muN := fun _ _ => rfl
theorem mem_muN : Mem K muN H := fun a o h => nomatch h
theorem den_seeF (m : Mem K μ H) : ∀ (n : Nat), (∀ (d : D) (v : V), Den K μ H d v → Den K muN H (seeF μ n d) v) ∧ (∀ (ds : List D) (vs : List V), DenL K μ H ds vs → DenL K muN H (seeFs μ n ds) vs) := by
  intro n
  have step : ∀ n, (∀ (d : D) (v : V), Den K μ H d v → Den K muN H (seeF μ n d) v) → ∀ (ds : List D) (vs : List V), DenL K μ H ds vs → DenL K muN H (seeFs μ n ds) vs := by
    intro n hd ds
    rw [seeFs_map]
    induction ds with
    | nil => intro vs h; unfold DenL at h; subst h; exact .nil
    | cons d ds ih =>
      intro vs h
      unfold DenL at h
      obtain ⟨w, ws, e, a, b⟩ := h
      subst e
      exact .cons (hd d w a) (ih ws b)
  induction n with
  | zero =>
    have h0 : ∀ (d : D) (v : V), Den K μ H d v → Den K muN H (seeF μ 0 d) v := fun d v h => by
      unfold seeF; exact Den.less less_muN _ _ h
    exact ⟨h0, step 0 h0⟩
  | succ n ih =>
    have h1 : ∀ (d : D) (v : V), Den K μ H d v → Den K muN H (seeF μ (n + 1) d) v := by
      intro d v h
      cases d with
      | «at» a =>
        unfold seeF
        cases q : μ a with
        | none => exact Den.less less_muN _ _ h
        | some o =>
          cases o with
          | lst ds =>
            obtain ⟨vs, e, b⟩ := m a _ q
            unfold Den at h
            subst h
            show Den K muN H (.lst (seeFs μ n ds)) _
            unfold Den
            exact ⟨a, vs, rfl, ⟨rfl, e⟩, ih.2 ds vs b⟩
          | dct _ _ => exact Den.less less_muN _ _ h
          | obj _ _ _ => exact Den.less less_muN _ _ h
      | tup ds =>
        unfold seeF
        unfold Den at h ⊢
        obtain ⟨p, vs, e, s, b⟩ := h
        refine ⟨p, vs, e, ?_, ih.2 ds vs b⟩
        rcases s with ⟨a, b⟩ | s
        · exact .inl ⟨rfl, b⟩
        · exact .inr s
      | lst ds =>
        unfold seeF
        unfold Den at h ⊢
        obtain ⟨p, vs, e, s, b⟩ := h
        exact ⟨p, vs, e, ⟨rfl, s.2⟩, ih.2 ds vs b⟩
      | _ => unfold seeF; exact Den.less less_muN _ _ h
    exact ⟨h1, step (n + 1) h1⟩
/-- what a value that stands by itself is -/
def scal : D → Bool
  | .non | .bl _ | .int _ | .str _ | .ty _ => true
  | _ => false
theorem den_scal {d : D} {v : V} (h : scal d = true) (a : Den K μ H d v) : Den K μ' H' d v := by
  cases d <;> first | (unfold Den at a ⊢; exact a) | (simp [scal] at h)
theorem mem_whole (m : Mem K μ H) (g : Grow muN H μ' H') : Mem K μ H' := fun a o h => by
  have gg : Grow μ H μ H' := fun b u hb e => ⟨hb, (g b u rfl e).2⟩
  have q := m a o h
  cases o with
  | lst ds =>
    obtain ⟨vs, e, b⟩ := q
    exact ⟨vs, (g a _ rfl e).2, DenL.grow gg _ _ b⟩
  | dct ks ds =>
    obtain ⟨vs, e, n, b⟩ := q
    exact ⟨vs, (g a _ rfl e).2, n, DenL.grow gg _ _ b⟩
  | obj C fs ds =>
    obtain ⟨dx, vs, e, n, b⟩ := q
    exact ⟨dx, vs, (g a _ rfl e).2, n, DenL.grow gg _ _ b⟩
/-- a call that takes live data as they are now, and answers a value that stands by itself -/
theorem evx_callZ (i : Nat) (h : EvL K W X μ ρ tr fun μ1 ds => ds.length = n ∧ P muN (ds.map (seeF μ1 i)) (fun _ d => scal d = true ∧ Φ μ1 d) excN) : EvX K W X μ ρ (tCall (spD K n P) [] E0 tr) Φ := fun σ H Q m e l k =>
  h σ H _ m e l fun μ1 ds vs H1 ⟨hl, hp⟩ g1 m1 d1 => ⟨muN, ds.map (seeF μ1 i), _, excN, mem_muN, by rw [List.append_nil, ← seeFs_map]; exact (den_seeF m1 i).2 _ _ d1, by rw [List.length_map]; exact hl, hp, fun μ' d v H' ⟨hs, hq⟩ g mm dd =>
    k μ1 d v H' hq (g1.trans fun b u hb e => ⟨hb, (g b u rfl e).2⟩) (mem_whole m1 g) (den_scal hs dd), fun _ _ _ _ _ _ z => z.elim⟩
/-- x != y over live data -/
theorem opx_neZ (i : Nat) (hx : Nice 64 (seeF μ i x)) (hy : Nice 64 (seeF μ i y)) (h : Φ μ (.bl (!eqD (seeF μ i x) (seeF μ i y)))) : OpX K (rOr rNe (rNeD K)) μ x y Φ :=
  opx_r fun H v w Q m a b k => ⟨_, _, den_dp _ _ ((den_seeF m i).1 _ _ a) hx.1, den_dp _ _ ((den_seeF m i).1 _ _ b) hy.1, hx.shaped (Nat.le_refl _), hy.shaped (Nat.le_refl _), k μ _ _ H h (Grow.refl _ _) m (by unfold Den; rfl)⟩
theorem opx_eqZ (i : Nat) (hx : Nice 64 (seeF μ i x)) (hy : Nice 64 (seeF μ i y)) (h : Φ μ (.bl (eqD (seeF μ i x) (seeF μ i y)))) : OpX K (rOr rEq (rEqD K)) μ x y Φ :=
  opx_r fun H v w Q m a b k => ⟨_, _, den_dp _ _ ((den_seeF m i).1 _ _ a) hx.1, den_dp _ _ ((den_seeF m i).1 _ _ b) hy.1, hx.shaped (Nat.le_refl _), hy.shaped (Nat.le_refl _), k μ _ _ H h (Grow.refl _ _) m (by unfold Den; rfl)⟩
theorem dp_seeF (i : Nat) {d : D} {v : V} (m : Mem K μ H) (h : Den K μ H d v) (p : plainD (seeF μ i d) = true) : Dp K H v (toP (seeF μ i d)) := den_dp _ _ ((den_seeF m i).1 _ _ h) p
/-- what is told is looked at otherwise: parts of the store are let go -/
theorem evx_less {Ψ : DP} (h : EvX K W X μ ρ te Ψ) (hq : ∀ μ' d, Ψ μ' d → ∃ μ'' d', Less μ' μ'' ∧ (∀ b o, μ'' b = some o → μ' b = some o) ∧ (∀ H v, Mem K μ' H → Den K μ' H d v → Den K μ'' H d' v) ∧ Φ μ'' d') : EvX K W X μ ρ te Φ := fun σ H Q m e l k =>
  h σ H _ m e l fun μ' d v H' p g mm dd => by
    obtain ⟨μ'', d', l1, l2, l3, hφ⟩ := hq μ' d p
    exact k μ'' d' v H' hφ (fun b o hb e => ⟨l1 b (g b o hb e).1, (g b o hb e).2⟩) (mm.less l1 l2) (l3 H' v mm dd)
/-- enumerate of a list -/
def enumD (xs : List D) : List D := xs.zipIdx.map fun p => .tup [.int (p.2 : Nat), p.1]
theorem enumD_len (xs : List D) : (enumD xs).length = xs.length := by unfold enumD; simp
theorem enumD_get {xs : List D} {i : Nat} {d : D} (h : (enumD xs)[i]? = some d) : ∃ x, xs[i]? = some x ∧ d = .tup [.int (i : Nat), x] := by
  unfold enumD at h
  rw [List.getElem?_map, List.getElem?_zipIdx] at h
  cases e : xs[i]? with
  | none => rw [e] at h; cases h
  | some x =>
    rw [e] at h
    simp at h
    exact ⟨x, rfl, h.symm⟩
theorem itx_enum {Ψ : Mu → List D → (Mu → Prop) → Prop} (h : EvL K W X μ ρ tr fun μ1 ds => ∃ a xs S, ds = [a] ∧ IsL μ1 a xs S ∧ (∀ m, S m) ∧ Ψ μ1 (enumD xs) fun _ => True) : ItX K W X μ ρ (iEnum K tr) Ψ := fun σ H R m e l k =>
  h σ H _ m e l fun μ1 ds vs H1 ⟨a, xs, S, hd, ha, hs, hp⟩ g1 m1 d1 => by
    subst hd
    obtain ⟨v1, e2, da⟩ := denL1 d1
    subst e2
    have key : ∃ p vs, v1 = .ref p ∧ StS K μ1 H1 p vs ∧ DenL K μ1 H1 xs vs := by
      rcases ha with ⟨e1 | e1, _⟩ | ⟨a, _, _, hS⟩
      · subst e1; unfold Den at da
        obtain ⟨p, vs, e2, s, b⟩ := da
        exact ⟨p, vs, e2, .inl ⟨s.1, .inl s.2⟩, b⟩
      · subst e1; unfold Den at da; exact da
      · subst hS
        have := hs (fun _ => none)
        cases this
    obtain ⟨p, us, e1, sp, bp⟩ := key
    subst e1
    refine ⟨p, us, rfl, sp.sq, k μ1 _ _ _ H1 hp g1 m1 (itok_pair (n := 0) (xs := fun _ _ => none) (ys := fun _ _ => none) (Y := YPair (fun i => some (V.int ↑i)) fun i => us[i]?) (G := fun H => SqL K H p us) (by rw [enumD_len, bp.length]; exact walk_enum) (fun μ' H' gr mm _ => (gr.stS sp).sq) ?_)⟩
    rintro i μ' H' v H'' d gr mm _ ⟨T, x, y, rfl, hT, rfl, hx, hy⟩ hd
    obtain ⟨dx, ex, rfl⟩ := enumD_get hd
    obtain ⟨u1, q1, r1⟩ := (DenL.grow gr _ _ bp).get ex
    have hy' : us[i]? = some y := hy
    rw [hy'] at q1; cases q1
    have hx' : some (V.int ↑i) = some x := hx
    cases hx'
    exact ⟨T, .int (i : Nat), dx, _, y, rfl, hT, rfl, rfl, by unfold Den; rfl, r1⟩
end
/-! ### methods of own objects: o.m(..), o.m(k = ..) -/
/-- the class has the method m, which keeps its promise; with its text -/
structure MetC (P : Program) (w : World) (K : PySem.W.Frag) (mg : Str → Option Value) (base : Heap) (CX : CXT) (k : Nat) (C : Addr) (m qual : Str) (st : Stmt) (ps : List Str) (sp : Sp) : Prop where
  ex : ∃ (f : Addr) (fd : FuncData), Meth K C m f ∧ Fun K m qual st f fd ∧ FnOk P w K mg base CX k f fd ps sp ∧ Binds K fd ps []
  cl : Cls K C
section
variable {P : Program} {w : World} {K : PySem.W.Frag} {mg : Str → Option Value} {base : Heap} {C : Addr} {m qual : Str} {st : Stmt} {N ps : List Str} {k : Nat}
theorem metC0 {Pd : PD} (h : Mtd K C m qual st) (cl : Cls K C) (S : FnScope N ps (defScope st))
    (hbi : ∀ (kV doc pm : Value) (an : Option Addr) (cdv ct : Value) (us : List Value), us.length = ps.length → bindArgs (PySem.W.fnOf m qual (defArgs st) (defBody st) (defScope st) .none kV doc pm an cdv ct) ⟨us, []⟩ = pure (ps.zip us))
    (hb : ∀ (f : Addr) (cdv : Value) (A : Around) (outer : List Env) (s : Shared) (H : Hp) (E : XK), Room k (A.deeper (envOfC qual (defScope st) s.heap.objs.size f cdv)) →
      ∃ t, PSs (cxOf CX0 P w K mg base N qual (defScope st) f cdv A outer s H E).nox (defBody st) t ∧ ∀ μ ds post exc, ds.length = ps.length → Pd μ ds post exc → GS K WN XN μ (startD N ds) t { nx := fun m _ => post m .non, rt := post }) :
    MetC P w K mg base CX0 (k + 1) C m qual st ps (spD K ps.length Pd) := by
  obtain ⟨f, fd, h1, h2, F⟩ := h
  exact ⟨⟨f, fd, ⟨h1, h2, F.kp⟩, F, def_ok F S (hb f), F.binds hbi⟩, cl⟩
theorem metCX {Pd : PD} (h : Mtd K C m qual st) (cl : Cls K C) (S : FnScope N ps (defScope st))
    (hbi : ∀ (kV doc pm : Value) (an : Option Addr) (cdv ct : Value) (us : List Value), us.length = ps.length → bindArgs (PySem.W.fnOf m qual (defArgs st) (defBody st) (defScope st) .none kV doc pm an cdv ct) ⟨us, []⟩ = pure (ps.zip us))
    (hb : ∀ (f : Addr) (cdv : Value) (A : Around) (outer : List Env) (s : Shared) (H : Hp) (E : XK), Room k (A.deeper (envOfC qual (defScope st) s.heap.objs.size f cdv)) →
      ∃ t, PSs (cxOf (L2.CX P w) P w K mg base N qual (defScope st) f cdv A outer s H E) (defBody st) t ∧ ∀ μ ds post exc, ds.length = ps.length → Pd μ ds post exc → GS K (fun cls d _ H => E cls d H) (fun m _ C d => exc m C d) μ (startD N ds) t { nx := fun m _ => post m .non, rt := post }) :
    MetC P w K mg base (L2.CX P w) (k + 1) C m qual st ps (spD K ps.length Pd) := by
  obtain ⟨f, fd, h1, h2, F⟩ := h
  exact ⟨⟨f, fd, ⟨h1, h2, F.kp⟩, F, def_okX F S (hb f), F.binds hbi⟩, cl⟩
theorem MetC.to0 {n : Nat} {P0 Pd : PD} (c : MetC P w K mg base (L2.CX P w) k C m qual st ps (spD K n Pd)) (h : ∀ μ ds post exc, P0 μ ds post exc → Pd μ ds post excN) : MetC P w K mg base CX0 k C m qual st ps (spD K n P0) := by
  obtain ⟨f, fd, h1, F, G, b⟩ := c.ex
  exact ⟨⟨f, fd, h1, F, fnX_0 G h, b⟩, c.cl⟩
theorem MetC.imp {CX : CXT} {n : Nat} {P1 P2 : PD} (c : MetC P w K mg base CX k C m qual st ps (spD K n P1)) (h : ∀ μ ds post exc, P2 μ ds post exc → P1 μ ds post exc) : MetC P w K mg base CX k C m qual st ps (spD K n P2) := by
  obtain ⟨f, fd, h1, F, G, b⟩ := c.ex
  exact ⟨⟨f, fd, h1, F, fn_imp G h, b⟩, c.cl⟩
end
/-- the call of a method: the object, what is found there, then the arguments -/
theorem meth_kw {M : Model} {A : Around} {env : Env} {s : Shared} {E : Value → Shared → Prop} {o : Expr} {m : Str} {apos pos : Pos} {pl : Sem Bool} {args : List Expr} {kws : List Keyword} {Q : Value → Shared → Prop}
    (hf : wpAny M A (eval o env) (fun ov s1 => wpAny M A (getMethod ov m pl) (fun fx s2 => wpAny M A (callWith pos fx.1 fx.2 (backTo pos (starEach args env)) (backToKw pos (keywordEach kws env))) Q E s2) E s1) E s)
    (ht : eval (.Call (.Attribute o m apos) args kws pos) env = (do
      let ov ← eval o env
      standAt apos.atName
      let __x ← holding [ov] (getMethod ov m pl)
      match __x with
      | (f, first) => callWith pos f first (backTo pos (starEach args env)) (backToKw pos (keywordEach kws env)))) : wpAny M A (eval (.Call (.Attribute o m apos) args kws pos) env) Q E s := by
  rw [ht]
  refine wpAny_bind (wpAny_mono hf (fun ov s1 h1 => wpAny_bind (wpAny_standAt (wpAny_bind (wpAny_holding (wpAny_mono h1 (fun fx s2 h2 => ?_) fun _ _ y => y))))) fun _ _ y => y)
  exact h2
section
variable {X : Cx} {CX : CXT} {k j n : Nat} {C : Addr} {m qual : Str} {st : Stmt} {ps ks : List Str} {sp : Sp} {o : Expr} {pos apos : Pos} {e : Expr} {es : List Expr} {tf : TE} {t tk : TA} {kws : List Keyword} {W : WX} {pm : List Nat} {pl : Sem Bool}
def tMetOS (C : Addr) (m : Str) (sp : Sp) (E : L2.St → XK) (tf : TE) (t : TA) : TE := fun σ H Q => tf σ H fun y H1 => ∃ a dx fs, y = V.ref a ∧ H1 a = some (.ins C dx fs) ∧ fs.lookup m = none ∧ t σ H1 fun vs H2 => sp (V.ref a :: vs) H2 Q (E σ)
def tMetOK (C : Addr) (m : Str) (sp : Sp) (gV : List V → List V → List V) (E : L2.St → XK) (n : Nat) (tf : TE) (tk : TA) : TE := fun σ H Q => tf σ H fun y H1 => ∃ a dx fs, y = V.ref a ∧ H1 a = some (.ins C dx fs) ∧ fs.lookup m = none ∧ tk σ H1 fun zs H2 => zs.length = n ∧ sp (gV [V.ref a] zs) H2 Q (E σ)
theorem pe_metOS {ES : L2.St → XK} (hf : PE X o tf) (c : MetC X.prog X.w X.K X.mg X.base CX k C m qual st ps sp) (hr : Room j X.A) (hj : k ≤ j) (hx : ∀ σ, PassesAt CX X σ (ES σ)) (ha : PA X (e :: es) t)
    (ht : eval (.Call (.Attribute o m apos) (e :: es) [] pos) X.env = (do
      let ov ← eval o X.env
      standAt apos.atName
      let __x ← holding [ov] (getMethod ov m pl)
      match __x with
      | (f, first) => callWith pos f first (backTo pos (starEach (e :: es) X.env)) (backToKw pos (keywordEach [] X.env))))
    (he : starEach (e :: es) X.env = (false, eval e X.env) :: starEach es X.env) (hpl : (backTo pos (starEach es X.env)).any (·.1) = false) : PE X (.Call (.Attribute o m apos) (e :: es) [] pos) (tMetOS C m sp ES tf t) := by
  obtain ⟨g, fd, h1, _, F, b⟩ := c.ex
  refine ⟨fun pins s σ H Q I h => ?_⟩
  refine meth_kw (thn (hf.run pins s σ H _ I h) fun u s1 ⟨y, H1, I1, ry, a, dx, fs, ey, hi, hn, q⟩ => ?_) ht
  subst ey
  obtain rfl : u = Value.ref a := ry
  refine L2.getmeth_ok I1 hi c.cl h1 hn ?_
  refine PySem.W.callWith_K (h₀ := X.base) I.ok.mod.kin h1.kp (thn (ha.run pos pins s1 σ H1 _ I1 q) fun us s2 ⟨vs, H2, I2, r, q2⟩ => ?_) he hpl
  refine ⟨I2.kIn, wpAny_call ?_⟩
  have r2 : Vals (V.ref a :: vs) (Value.ref a :: us) := .cons rfl r
  have hl : (Value.ref a :: us ++ []).length = ps.length := by
    rw [List.append_nil]
    have e := r2.length
    rw [F.len _ _ _ _ q2] at e
    exact e.symm
  have hbb := b _ (Value.ref a :: us) I2.kIn hl
  rw [List.append_nil] at hbb
  refine codeAny_mono (F.run X.A X.stack s2 H2 ⟨Value.ref a :: us, []⟩ (Value.ref a :: us) _ Q (ES σ) (hr.mono hj) I2.env0 hbb r2 q2) fun r s' hq => ?_
  rcases r with e | (_ | _ | _ | u)
  · exact hx σ pins H2 s2 e s' I2 hq
  · exact False.elim hq
  · exact False.elim hq
  · exact False.elim hq
  · exact I2.after hq
theorem pe_metOK {ES : L2.St → XK} (hf : PE X o tf) (c : MetC X.prog X.w X.K X.mg X.base CX k C m qual st ps sp) (hr : Room j X.A) (hj : k ≤ j) (hx : ∀ σ, PassesAt CX X σ (ES σ)) (hm : ks.length = n)
    (h : ∀ (kV doc pv : Value) (an : Option Addr) (cdv ct : Value) (us ws : List Value), us.length = 1 → ws.length = n → bindArgs (PySem.W.fnOf m qual (defArgs st) (defBody st) (defScope st) .none kV doc pv an cdv ct) ⟨us, ks.zip ws⟩ = pure (ps.zip (pm.filterMap fun i => (us ++ ws)[i]?)))
    (hkw : PK X kws tk)
    (ht : eval (.Call (.Attribute o m apos) [] kws pos) X.env = (do
      let ov ← eval o X.env
      standAt apos.atName
      let __x ← holding [ov] (getMethod ov m pl)
      match __x with
      | (f, first) => callWith pos f first (backTo pos (starEach [] X.env)) (backToKw pos (keywordEach kws X.env))))
    (hall : (backToKw pos (keywordEach kws X.env)).all (·.1.isSome) = true) (hks : (backToKw pos (keywordEach kws X.env)).filterMap (·.1) = ks)
    (hn : ((backTo pos (starEach [] X.env)).any (·.1) || (backToKw pos (keywordEach kws X.env)).any (·.1.isNone)) = false) :
    PE X (.Call (.Attribute o m apos) [] kws pos) (tMetOK C m sp (permG 1 n pm) ES n tf tk) := by
  obtain ⟨g, fd, h1, Ff, F, b⟩ := c.ex
  refine ⟨fun pins s σ H Q I h0 => ?_⟩
  refine meth_kw (thn (hf.run pins s σ H _ I h0) fun u s1 ⟨y, H1, I1, ry, a, dx, fs, ey, hi, hnn, q⟩ => ?_) ht
  subst ey
  obtain rfl : u = Value.ref a := ry
  refine L2.getmeth_ok I1 hi c.cl h1 hnn ?_
  refine PySem.W.callWith_KW0 (h₀ := X.base) I.ok.mod.kin h1.kp hall (thn (hkw.run pos pins s1 σ H1 _ I1 q) fun ws s2 ⟨zs, H2, I2, rz, hz, q2⟩ => ?_) hn
  refine ⟨I2.kIn, wpAny_call ?_⟩
  have kb := kbn_of (n := 1) (m := n) (pm := pm) (ks := ks) Ff hm h
  rw [hks]
  have r1 : Vals [V.ref a] [Value.ref a] := .cons rfl .nil
  refine codeAny_mono (F.run X.A X.stack s2 H2 ⟨[Value.ref a], ks.zip ws⟩ _ _ Q (ES σ) (hr.mono hj) I2.env0 (kb.to _ [Value.ref a] ws I2.kIn rfl (by rw [← rz.length, hz, hm])) (kb.rel r1 rz) q2) fun r s' hq => ?_
  rcases r with e | (_ | _ | _ | u)
  · exact hx σ pins H2 s2 e s' I2 hq
  · exact False.elim hq
  · exact False.elim hq
  · exact False.elim hq
  · exact I2.after hq
theorem pe_mtS (hf : PE X o tf) (c : MetC X.prog X.w X.K X.mg X.base (L2.CX X.prog X.w) k C m qual st ps sp) (hr : Room j X.A) (hj : k ≤ j) (tw : Takes X W) (ha : PA X (e :: es) t)
    (ht : eval (.Call (.Attribute o m apos) (e :: es) [] pos) X.env = (do
      let ov ← eval o X.env
      standAt apos.atName
      let __x ← holding [ov] (getMethod ov m pl)
      match __x with
      | (f, first) => callWith pos f first (backTo pos (starEach (e :: es) X.env)) (backToKw pos (keywordEach [] X.env))) := by rfl)
    (he : starEach (e :: es) X.env = (false, eval e X.env) :: starEach es X.env := by rfl) (hpl : (backTo pos (starEach es X.env)).any (·.1) = false := by rfl) : PE X (.Call (.Attribute o m apos) (e :: es) [] pos) (tMetOS C m sp (WE W) tf t) :=
  pe_metOS hf c hr hj (fun σ => passAt tw σ) ha ht he hpl
theorem pe_mt0 (hf : PE X o tf) (c : MetC X.prog X.w X.K X.mg X.base CX0 k C m qual st ps sp) (hr : Room j X.A) (hj : k ≤ j) (ha : PA X (e :: es) t)
    (ht : eval (.Call (.Attribute o m apos) (e :: es) [] pos) X.env = (do
      let ov ← eval o X.env
      standAt apos.atName
      let __x ← holding [ov] (getMethod ov m pl)
      match __x with
      | (f, first) => callWith pos f first (backTo pos (starEach (e :: es) X.env)) (backToKw pos (keywordEach [] X.env))) := by rfl)
    (he : starEach (e :: es) X.env = (false, eval e X.env) :: starEach es X.env := by rfl) (hpl : (backTo pos (starEach es X.env)).any (·.1) = false := by rfl) : PE X (.Call (.Attribute o m apos) (e :: es) [] pos) (tMetOS C m sp (fun _ => E0) tf t) :=
  pe_metOS hf c hr hj (fun σ pins H s e s' I q => q.elim) ha ht he hpl
theorem pe_mtKS (hf : PE X o tf) (c : MetC X.prog X.w X.K X.mg X.base (L2.CX X.prog X.w) k C m qual st ps sp) (hr : Room j X.A) (hj : k ≤ j) (tw : Takes X W) (hm : ks.length = n)
    (h : ∀ (kV doc pv : Value) (an : Option Addr) (cdv ct : Value) (us ws : List Value), us.length = 1 → ws.length = n → bindArgs (PySem.W.fnOf m qual (defArgs st) (defBody st) (defScope st) .none kV doc pv an cdv ct) ⟨us, ks.zip ws⟩ = pure (ps.zip (pm.filterMap fun i => (us ++ ws)[i]?)))
    (hkw : PK X kws tk)
    (ht : eval (.Call (.Attribute o m apos) [] kws pos) X.env = (do
      let ov ← eval o X.env
      standAt apos.atName
      let __x ← holding [ov] (getMethod ov m pl)
      match __x with
      | (f, first) => callWith pos f first (backTo pos (starEach [] X.env)) (backToKw pos (keywordEach kws X.env))) := by rfl)
    (hall : (backToKw pos (keywordEach kws X.env)).all (·.1.isSome) = true := by rfl) (hks : (backToKw pos (keywordEach kws X.env)).filterMap (·.1) = ks := by rfl)
    (hn : ((backTo pos (starEach [] X.env)).any (·.1) || (backToKw pos (keywordEach kws X.env)).any (·.1.isNone)) = false := by rfl) :
    PE X (.Call (.Attribute o m apos) [] kws pos) (tMetOK C m sp (permG 1 n pm) (WE W) n tf tk) :=
  pe_metOK hf c hr hj (fun σ => passAt tw σ) hm h hkw ht hall hks hn
theorem pe_mtK0 (hf : PE X o tf) (c : MetC X.prog X.w X.K X.mg X.base CX0 k C m qual st ps sp) (hr : Room j X.A) (hj : k ≤ j) (hm : ks.length = n)
    (h : ∀ (kV doc pv : Value) (an : Option Addr) (cdv ct : Value) (us ws : List Value), us.length = 1 → ws.length = n → bindArgs (PySem.W.fnOf m qual (defArgs st) (defBody st) (defScope st) .none kV doc pv an cdv ct) ⟨us, ks.zip ws⟩ = pure (ps.zip (pm.filterMap fun i => (us ++ ws)[i]?)))
    (hkw : PK X kws tk)
    (ht : eval (.Call (.Attribute o m apos) [] kws pos) X.env = (do
      let ov ← eval o X.env
      standAt apos.atName
      let __x ← holding [ov] (getMethod ov m pl)
      match __x with
      | (f, first) => callWith pos f first (backTo pos (starEach [] X.env)) (backToKw pos (keywordEach kws X.env))) := by rfl)
    (hall : (backToKw pos (keywordEach kws X.env)).all (·.1.isSome) = true := by rfl) (hks : (backToKw pos (keywordEach kws X.env)).filterMap (·.1) = ks := by rfl)
    (hn : ((backTo pos (starEach [] X.env)).any (·.1) || (backToKw pos (keywordEach kws X.env)).any (·.1.isNone)) = false := by rfl) :
    PE X (.Call (.Attribute o m apos) [] kws pos) (tMetOK C m sp (permG 1 n pm) (fun _ => E0) n tf tk) :=
  pe_metOK hf c hr hj (fun σ pins H s e s' I q => q.elim) hm h hkw ht hall hks hn
end
theorem lookup_zip {α : Type} {m : Str} : ∀ {fs : List Str} {vs : List α}, m ∉ fs → (fs.zip vs).lookup m = none
  | [], vs, _ => by rw [List.zip_nil_left]; rfl
  | f :: fs, [], _ => by rw [List.zip_nil_right]; rfl
  | f :: fs, v :: vs, h => by
    rw [List.zip_cons_cons, List.lookup_cons]
    have hne : (m == f) = false := by
      rw [beq_eq_false_iff_ne]
      exact fun z => h (by rw [z]; exact List.mem_cons_self ..)
    rw [hne]
    exact lookup_zip fun z => h (List.mem_cons_of_mem _ z)
section
variable {K : PySem.W.Frag} {W : WX} {X : XD} {μ : Mu} {ρ : Ro} {Φ : DP} {C : Addr} {m : Str} {n r a b : Nat} {pm : List Nat} {P : PD} {tf : TE} {t tk : TA}
/-- o.m(..) -/
theorem evx_mtS (h : EvX K W X μ ρ tf fun μ0 x => ∃ fs es, ObjD μ0 x C fs es ∧ m ∉ fs ∧ EvL K W X μ0 ρ t fun μ1 ds => ds.length + 1 = n ∧ P μ1 (x :: ds) Φ fun μ' A d => X μ' ρ A d) : EvX K W X μ ρ (tMetOS C m (spD K n P) (WE W) tf t) Φ := fun σ H Q m0 e l k =>
  h σ H _ m0 e l fun μ1 x v H1 ⟨fs, es, ho, hm, h1⟩ g1 m1 d1 => by
    obtain ⟨p, dx, vs, e2, hi, _⟩ := ho.hp m1 d1
    subst e2
    refine ⟨p, dx, _, rfl, hi, lookup_zip hm, h1 σ H1 _ m1 (e.grow g1) (l.grow g1) fun μ2 ds vs H2 ⟨hl, hp⟩ g2 m2 d2 => ?_⟩
    have gg := g1.trans g2
    exact ⟨μ2, x :: ds, Φ, _, m2, DenL.cons (Den.grow g2 _ _ d1) d2, by rw [List.length_cons]; exact hl, hp, fun μ' d v H' p g => k μ' d v H' p (gg.trans g), fun μ' A d dx v H' p g mm => l μ' ρ A d dx v σ H' p (gg.trans g) mm ((e.grow gg).grow g)⟩
theorem evx_mt0 (h : EvX K W X μ ρ tf fun μ0 x => ∃ fs es, ObjD μ0 x C fs es ∧ m ∉ fs ∧ EvL K W X μ0 ρ t fun μ1 ds => ds.length + 1 = n ∧ P μ1 (x :: ds) Φ excN) : EvX K W X μ ρ (tMetOS C m (spD K n P) (fun _ => E0) tf t) Φ := fun σ H Q m0 e l k =>
  h σ H _ m0 e l fun μ1 x v H1 ⟨fs, es, ho, hm, h1⟩ g1 m1 d1 => by
    obtain ⟨p, dx, vs, e2, hi, _⟩ := ho.hp m1 d1
    subst e2
    refine ⟨p, dx, _, rfl, hi, lookup_zip hm, h1 σ H1 _ m1 (e.grow g1) (l.grow g1) fun μ2 ds vs H2 ⟨hl, hp⟩ g2 m2 d2 => ?_⟩
    have gg := g1.trans g2
    exact ⟨μ2, x :: ds, Φ, _, m2, DenL.cons (Den.grow g2 _ _ d1) d2, by rw [List.length_cons]; exact hl, hp, fun μ' d v H' p g => k μ' d v H' p (gg.trans g), fun _ _ _ _ _ _ z => z.elim⟩
/-- o.m(k = ..) -/
theorem evx_mtKS (h : EvX K W X μ ρ tf fun μ0 x => ∃ fs es, ObjD μ0 x C fs es ∧ m ∉ fs ∧ EvL K W X μ0 ρ tk fun μ1 ds => ds.length = r ∧ (permG a b pm [x] ds).length = n ∧ P μ1 (permG a b pm [x] ds) Φ fun μ' A d => X μ' ρ A d) : EvX K W X μ ρ (tMetOK C m (spD K n P) (permG a b pm) (WE W) r tf tk) Φ := fun σ H Q m0 e l k =>
  h σ H _ m0 e l fun μ1 x v H1 ⟨fs, es, ho, hm, h1⟩ g1 m1 d1 => by
    obtain ⟨p, dx, vs, e2, hi, _⟩ := ho.hp m1 d1
    subst e2
    refine ⟨p, dx, _, rfl, hi, lookup_zip hm, h1 σ H1 _ m1 (e.grow g1) (l.grow g1) fun μ2 ds vs H2 ⟨hr, hl, hp⟩ g2 m2 d2 => ?_⟩
    have gg := g1.trans g2
    exact ⟨by rw [← d2.length]; exact hr, μ2, _, Φ, _, m2, permG_den (DenL.cons (Den.grow g2 _ _ d1) DenL.nil) d2, hl, hp, fun μ' d v H' p g => k μ' d v H' p (gg.trans g), fun μ' A d dx v H' p g mm => l μ' ρ A d dx v σ H' p (gg.trans g) mm ((e.grow gg).grow g)⟩
theorem evx_mtK0 (h : EvX K W X μ ρ tf fun μ0 x => ∃ fs es, ObjD μ0 x C fs es ∧ m ∉ fs ∧ EvL K W X μ0 ρ tk fun μ1 ds => ds.length = r ∧ (permG a b pm [x] ds).length = n ∧ P μ1 (permG a b pm [x] ds) Φ excN) : EvX K W X μ ρ (tMetOK C m (spD K n P) (permG a b pm) (fun _ => E0) r tf tk) Φ := fun σ H Q m0 e l k =>
  h σ H _ m0 e l fun μ1 x v H1 ⟨fs, es, ho, hm, h1⟩ g1 m1 d1 => by
    obtain ⟨p, dx, vs, e2, hi, _⟩ := ho.hp m1 d1
    subst e2
    refine ⟨p, dx, _, rfl, hi, lookup_zip hm, h1 σ H1 _ m1 (e.grow g1) (l.grow g1) fun μ2 ds vs H2 ⟨hr, hl, hp⟩ g2 m2 d2 => ?_⟩
    have gg := g1.trans g2
    exact ⟨by rw [← d2.length]; exact hr, μ2, _, Φ, _, m2, permG_den (DenL.cons (Den.grow g2 _ _ d1) DenL.nil) d2, hl, hp, fun μ' d v H' p g => k μ' d v H' p (gg.trans g), fun _ _ _ _ _ _ z => z.elim⟩
end
/-- len where the reading must not name the frame (inside a try) -/
theorem call_lenK {X : Cx} {K : PySem.W.Frag} (h : X.K = K) : CallR X (.builtin "len") fun xs H Q => ∃ x n, xs = [x] ∧ LenV K x H n ∧ Q (.int (n : Nat)) H := by
  subst h
  exact call_len
theorem ix_seqK {X : Cx} {K : PySem.W.Frag} (h : X.K = K) : IxR X (rIx K) := by
  subst h
  exact ix_seq
theorem op_addUK {X : Cx} {K : PySem.W.Frag} (h : X.K = K) : OpR X (binaryOp .Add) (rAddU K) := by
  subst h
  exact op_addU
/-! ### where draws come from -/
/-- S c: at most c draws so far; what it says hangs on what stands at a and g alone -/
structure Src (S : Int → Mu → Prop) (a g : Addr) : Prop where
  mono : ∀ {c c' : Int} {μ : Mu}, S c μ → c ≤ c' → S c' μ
  na : ∀ {c : Int} {μ : Mu} {p : Addr}, S c μ → μ p = none → p ≠ a ∧ p ≠ g
  off : ∀ {c : Int} {μ μ' : Mu} {p : Addr}, S c μ → p ≠ a → p ≠ g → (∀ b, b ≠ p → μ' b = μ b) → S c μ'
theorem Src.put {S : Int → Mu → Prop} {a g p : Addr} {c : Int} {μ : Mu} {o : MO} (s : Src S a g) (h : S c μ) (h1 : p ≠ a) (h2 : p ≠ g) : S c (mput μ p o) := s.off h h1 h2 fun b hb => mput_ne hb
theorem Src.cut {S : Int → Mu → Prop} {a g p : Addr} {c : Int} {μ : Mu} (s : Src S a g) (h : S c μ) (h1 : p ≠ a) (h2 : p ≠ g) : S c (mcut μ p) := s.off h h1 h2 fun b hb => mcut_ne hb
theorem deck_src (a g : Addr) : Src (Deck a g) a g := ⟨fun h q => h.mono q, fun h q => h.na q, fun h h1 h2 q => h.off h1 h2 q⟩
section
variable {K : PySem.W.Frag} {W : WX} {X : XD} {μ : Mu} {ρ : Ro} {Φ : DP} {te : TE} {tt : TT} {g : TG} {wi : TI}
theorem evx_mid (M : DP) (h : EvX K W X μ ρ te M) (k : ∀ m d, M m d → Φ m d) : EvX K W X μ ρ te Φ := h.imp k
/-- a comprehension that draws: st cards a turn -/
theorem evx_lcSk {vs : List Nat} {a ga : Addr} (S0 : Int → Mu → Prop) (hS0 : Src S0 a ga) (h : ItX K W X μ ρ wi fun μ1 ds S => (ds.length ≤ 1000000 ∧ ∀ m, S m) ∧ ∃ (c st : Int) (R : Nat → List D → Prop), S0 c μ1 ∧ R 0 [] ∧
    (∀ i d μ' acc, ds[i]? = some d → acc.length ≤ i → R i acc → S0 (c + st * i) μ' → Keep a ga μ1 μ' → TcX K W X vs μ' (wipeD ρ vs) g d fun μ2 ρ2 =>
      EvB K W X μ2 ρ2 tt fun μ3 b => if b = true then Keep a ga μ' μ3 ∧ EvX K W X μ3 ρ2 te fun μ4 y => Keep a ga μ' μ4 ∧ S0 (c + st * (i + 1)) μ4 ∧ R (i + 1) (acc ++ [y]) else Keep a ga μ' μ3 ∧ S0 (c + st * (i + 1)) μ3 ∧ R (i + 1) acc) ∧
    ∀ μ' acc, acc.length ≤ ds.length → R ds.length acc → S0 (c + st * ds.length) μ' → Keep a ga μ1 μ' → Φ μ' (.lst acc)) : EvX K W X μ ρ (tLc wi g tt te vs) Φ := by
  refine evx_lcI fun σ H R m e l k => h σ H R m e l fun μ1 ds S J H1 ⟨hl, c, st, R, hd, h0, hstep, hend⟩ g1 m1 ok => k μ1 ds S J H1 ⟨hl, ?_⟩ g1 m1 ok
  refine ⟨fun i μ' acc => S0 (c + st * i) μ' ∧ Keep a ga μ1 μ' ∧ R i acc, ⟨hS0.mono hd (by simp), Keep.refl _ _ _, h0⟩, ?_, ?_, ?_⟩
  · rintro Dl hD i acc μ' μ'' hb ⟨h1, h2, h3⟩
    have hn := hS0.na hd hD
    exact ⟨hS0.off h1 hn.1 hn.2 hb, h2.off hD hb, h3⟩
  · rintro Dl hD i d μ' acc hi ha hDl ⟨h1, h2, h3⟩
    have hn := hS0.na hd hD
    intro σ H v Q m e dd k
    refine hstep i d μ' acc hi ha h3 h1 h2 σ H v Q m e dd fun ρ2 σ2 q2 e2 hw => k ρ2 σ2 ?_ e2 hw
    refine q2.imp fun μ3 b r => ?_
    cases b with
    | false =>
      rw [if_neg (by decide)] at r
      refine ⟨r.1 Dl _ hn.1 hn.2 hDl, ?_⟩
      rw [if_neg (by decide)]
      exact ⟨hS0.mono r.2.1 (by rw [Int.natCast_add]; exact Int.le_refl _), h2.trans r.1, r.2.2⟩
    | true =>
      rw [if_pos rfl] at r
      refine ⟨r.1 Dl _ hn.1 hn.2 hDl, ?_⟩
      rw [if_pos rfl]
      refine r.2.imp fun μ4 y ⟨s1, s2, s3⟩ => ⟨s1 Dl _ hn.1 hn.2 hDl, hS0.mono s2 (by rw [Int.natCast_add]; exact Int.le_refl _), h2.trans s1, s3⟩
  · exact .inl fun μ' acc ha ⟨h1, h2, h3⟩ => hend μ' acc ha h3 h1 h2
end
/-! ### list(text) -/
theorem sign_vals : ∀ {cs : List Nat} {us : List Value}, us.length = cs.length → (∀ (j : Nat) (v : Value), us[j]? = some v → ∃ c u, cs[j]? = some c ∧ v = .str ⟨#[c]⟩ u) → Vals (cs.map fun c => V.str ⟨#[c]⟩) us
  | [], [], _, _ => .nil
  | [], _ :: _, h, _ => nomatch h
  | _ :: _, [], h, _ => nomatch h
  | c :: cs, u :: us, hl, h => by
    obtain ⟨c', t, e1, e2⟩ := h 0 u rfl
    have e1' : c = c' := Option.some.inj e1
    subst e1' e2
    exact .cons ⟨t, rfl⟩ (sign_vals (by simpa using hl) fun j v e => h (j + 1) v e)
abbrev rListT : List V → Hp → VK → Prop := fun xs H Q => ∃ z : Str, xs = [.str z] ∧ z.length ≤ 1000000 ∧ ∀ l, H l = none → Q (.ref l) (upd H l (.lst (z.cps.toList.map fun c => V.str ⟨#[c]⟩)))
theorem call_listT {X : Cx} (hcalm : X.calm = true) : CallR X (.type "list") rListT := by
  intro pins s σ H xs us Q I r h
  obtain ⟨z, rfl, hz, q⟩ := h
  obtain ⟨u, rfl, rx⟩ := vals1 r
  obtain ⟨t, rfl⟩ := rx
  refine call_list_str (I.ok.hd hcalm) z t (fun h' tk acc' c' hk hD hacc => ?_) (Nat.le_trans hz (by decide))
  have hv : Vals (z.cps.toList.map fun c => V.str ⟨#[c]⟩) acc'.toList := by
    refine sign_vals (by rw [Array.length_toList, Array.length_toList]; exact hacc.1) fun j v e => ?_
    obtain ⟨c, u, hc, hv⟩ := hacc.2 j v (by rw [← Array.getElem?_toList]; exact e)
    exact ⟨c, u, by rw [Array.getElem?_toList]; exact hc, hv⟩
  exact ⟨.ref s.heap.objs.size, upd H s.heap.objs.size (.lst (z.cps.toList.map fun c => V.str ⟨#[c]⟩)), I.laid (t' := tk) hk (Nat.le_refl _)
    (show ObjOk X.prog X.w _ _ _ (.lst (z.cps.toList.map fun c => V.str ⟨#[c]⟩)) from ⟨by rw [List.length_map, Array.length_toList]; exact Nat.le_trans hz (by decide), acc'.toList, c', hv, by rw [Array.toArray_toList]; exact hD⟩), rfl, q _ (I.hok.fresh (Nat.le_refl _))⟩
section
variable {K : PySem.W.Frag} {W : WX} {X : XD} {μ : Mu} {H : Hp} {ρ : Ro} {Φ : DP} {ta tb tv te : TE} {E : ED}
theorem signs_den (z : Str) : DenL K μ H (signsD z) (z.cps.toList.map fun c => V.str ⟨#[c]⟩) := by
  unfold signsD
  generalize z.cps.toList = cs
  induction cs with
  | nil => exact DenL.nil
  | cons c cs ih => exact DenL.cons (by unfold Den; rfl) ih
theorem cax_listTM {z : Str} (hz : z.length ≤ 1000000) (h : ∀ p, μ p = none → Φ (mput μ p (.lst (signsD z))) (.at p)) : CaX K rListT μ [.str z] Φ := fun H vs Q m d k => by
  obtain ⟨v, e, a⟩ := denL1 d
  unfold Den at a
  subst a
  exact ⟨z, e, hz, fun l hl => k _ _ _ _ (h l (m.free hl)) (Grow.newM hl) (m.newM hl ⟨_, upd_same, signs_den z⟩) (by unfold Den; rfl)⟩
theorem cax_listT {z : Str} (hz : z.length ≤ 1000000) (h : Φ μ (.lst (signsD z))) : CaX K rListT μ [.str z] Φ := fun H vs Q m d k => by
  obtain ⟨v, e, a⟩ := denL1 d
  unfold Den at a
  subst a
  exact ⟨z, e, hz, fun l hl => k _ _ _ _ h (Grow.new hl) (m.new hl) (by unfold Den; exact ⟨l, _, rfl, ⟨m.free hl, upd_same⟩, signs_den z⟩)⟩
/-! ### dicts -/
instance decKey (k : Key) (ks : List Key) : Decidable (k ∈ ks) := @List.instDecidableMemOfLawfulBEq Key instBEqOfDecidableEq inferInstance k ks
theorem evx_dnewM (h : ∀ p, μ p = none → Φ (mput μ p (.dct [] [])) (.at p)) : EvX K W X μ ρ tDNewK Φ := fun σ H Q m e l k p hp =>
  k _ _ _ _ (h p (m.free hp)) (Grow.newM hp) (m.newM hp ⟨[], upd_same, rfl, DenL.nil⟩) (by unfold Den; rfl)
/-- d[k] = v: the keys and the data behind it -/
def putKs (ks : List Key) (k : Key) : List Key := if k ∈ ks then ks else ks ++ [k]
def putDs {α : Type} (ks : List Key) (ds : List α) (k : Key) (d : α) : List α := if k ∈ ks then (ks.zip ds).map fun p => if p.1 = k then d else p.2 else ds ++ [d]
theorem any_mem {α : Type} {k : Key} : ∀ {ks : List Key} {ds : List α}, ks.length = ds.length → ((ks.zip ds).any fun kv => decide (kv.1 = k)) = decide (k ∈ ks)
  | [], ds, _ => by rw [List.zip_nil_left]; rfl
  | g :: ks, [], h => nomatch h
  | g :: ks, d :: ds, h => by
    rw [List.zip_cons_cons, List.any_cons, any_mem (by simpa using h)]
    by_cases hg : g = k
    · simp [hg]
    · simp [hg, Ne.symm hg]
theorem map_zip {α : Type} {k : Key} {v : α} : ∀ {ks : List Key} {vs : List α}, ks.length = vs.length → (ks.zip vs).map (fun kv => if kv.1 = k then (kv.1, v) else kv) = ks.zip ((ks.zip vs).map fun p => if p.1 = k then v else p.2)
  | [], vs, _ => by rw [List.zip_nil_left, List.zip_nil_left]; rfl
  | g :: ks, [], h => nomatch h
  | g :: ks, w :: vs, h => by
    rw [List.zip_cons_cons, List.map_cons, List.map_cons, List.zip_cons_cons, map_zip (by simpa using h)]
    by_cases hg : g = k
    · rw [if_pos hg, if_pos hg]
    · rw [if_neg hg, if_neg hg]
theorem putK_any {k : Key} {v : V} {ks : List Key} {vs : List V} (h : ks.length = vs.length) : putK (ks.zip vs) k v = (putKs ks k).zip (putDs ks vs k v) ∧ (putKs ks k).length = (putDs ks vs k v).length := by
  unfold putK putKs putDs
  rw [any_mem h]
  by_cases hk : k ∈ ks
  · rw [if_pos (decide_eq_true hk), if_pos hk, if_pos hk, map_zip h]
    refine ⟨rfl, ?_⟩
    rw [List.length_map, List.length_zip, h, Nat.min_self]
  · rw [if_neg (by rw [decide_eq_false hk]; decide), if_neg hk, if_neg hk, List.zip_append h]
    refine ⟨rfl, ?_⟩
    rw [List.length_append, List.length_append, h]; rfl
theorem den_putDs {k : Key} {d : D} {v : V} (r : Den K μ H d v) : ∀ {ks : List Key} {ds : List D} {vs : List V}, DenL K μ H ds vs → DenL K μ H ((ks.zip ds).map fun p => if p.1 = k then d else p.2) ((ks.zip vs).map fun p => if p.1 = k then v else p.2)
  | [], ds, vs, h => by rw [List.zip_nil_left, List.zip_nil_left]; exact DenL.nil
  | g :: ks, [], vs, h => by unfold DenL at h; subst h; exact DenL.nil
  | g :: ks, e :: ds, vs, h => by
    unfold DenL at h
    obtain ⟨w, ws, e1, a, b⟩ := h
    subst e1
    rw [List.zip_cons_cons, List.zip_cons_cons, List.map_cons, List.map_cons]
    refine DenL.cons ?_ (den_putDs r b)
    by_cases hg : g = k
    · rw [if_pos hg, if_pos hg]; exact r
    · rw [if_neg hg, if_neg hg]; exact a
theorem den_putD {k : Key} {d : D} {v : V} (r : Den K μ H d v) {ks : List Key} {ds : List D} {vs : List V} (h : DenL K μ H ds vs) : DenL K μ H (putDs ks ds k d) (putDs ks vs k v) := by
  unfold putDs
  by_cases hk : k ∈ ks
  · rw [if_pos hk, if_pos hk]; exact den_putDs r h
  · rw [if_neg hk, if_neg hk]; exact h.append (DenL.cons r DenL.nil)
theorem gs_dput (h : EvX K W X μ ρ tv fun μ1 d => EvX K W X μ1 ρ ta fun μ2 x => EvX K W X μ2 ρ tb fun μ3 y => ∃ a ks ds k, x = .at a ∧ y = keyD k ∧ μ3 a = some (.dct ks ds) ∧ ks.length ≤ 1000000 ∧ E.nx (mput μ3 a (.dct (putKs ks k) (putDs ks ds k d))) ρ) : GS K W X μ ρ (sDPut ta tb tv) E := fun σ H D m e l k =>
  h σ H _ m e l fun μ1 d v H1 h1 g1 m1 d1 => h1 σ H1 _ m1 (e.grow g1) (l.grow g1) fun μ2 x w H2 h2 g2 m2 d2 => h2 σ H2 _ m2 ((e.grow g1).grow g2) ((l.grow g1).grow g2) fun μ3 y u H3 ⟨a, ks, ds, kk, ex, ey, ha, hl, hq⟩ g3 m3 d3 => by
    subst ex ey
    have ek := den_key d3
    subst ek
    unfold Den at d2
    subst d2
    obtain ⟨vs, q, n, b⟩ := m3 a _ ha
    have gg := (g1.trans g2).trans g3
    have dv := Den.grow (g2.trans g3) _ _ d1
    obtain ⟨e1, e2⟩ := putK_any (k := kk) (v := v) n
    refine ⟨a, _, rfl, DPut.k q (by rw [List.length_zip, n, Nat.min_self, ← n]; exact Nat.lt_of_le_of_lt hl (by decide)), ?_⟩
    rw [e1]
    exact k.nx _ _ _ _ hq (gg.trans (Grow.wr ha)) (m3.wr ha ⟨_, upd_same, e2, DenL.grow (Grow.wr ha) _ _ (den_putD dv b)⟩) ((e.grow gg).grow (Grow.wr ha))
theorem valV_none {k : Key} : ∀ {ks : List Key} {vs : List V}, ks.length = vs.length → (valV (ks.zip vs) k).isSome = decide (k ∈ ks)
  | [], vs, _ => by rw [List.zip_nil_left]; rfl
  | g :: ks, [], h => nomatch h
  | g :: ks, w :: vs, h => by
    rw [List.zip_cons_cons]
    by_cases hg : g = k
    · rw [valV_pos hg]; simp [hg]
    · rw [valV_neg hg, valV_none (by simpa using h)]; simp [Ne.symm hg]
/-- a dict: kept, or one that may change -/
def DctD (μ : Mu) (x : D) (ks : List Key) (ds : List D) : Prop := x = .dct ks ds ∨ ∃ a, x = .at a ∧ μ a = some (.dct ks ds)
theorem DctD.hp {x : D} {ks : List Key} {ds : List D} {v : V} (m : Mem K μ H) (hx : DctD μ x ks ds) (dv : Den K μ H x v) : ∃ p vs, v = .ref p ∧ H p = some (.dK (ks.zip vs)) ∧ ks.length = vs.length ∧ DenL K μ H ds vs := by
  rcases hx with rfl | ⟨a, rfl, ha⟩
  · unfold Den at dv
    obtain ⟨p, vs, e1, s, n, b⟩ := dv
    exact ⟨p, vs, e1, s.2, n, b⟩
  · unfold Den at dv
    obtain ⟨vs, q, n, b⟩ := m a _ ha
    exact ⟨a, vs, dv, q, n, b⟩
theorem evx_din (h : EvX K W X μ ρ ta fun μ1 y => EvX K W X μ1 ρ tb fun μ2 x => ∃ ks ds k, DctD μ2 x ks ds ∧ y = keyD k ∧ Φ μ2 (.bl (decide (k ∈ ks)))) : EvX K W X μ ρ (tDIn ta tb) Φ := fun σ H Q m e l kk =>
  h σ H _ m e l fun μ1 y w H1 h1 g1 m1 d1 => h1 σ H1 _ m1 (e.grow g1) (l.grow g1) fun μ2 x v H2 ⟨ks, ds, k, hx, hy, hq⟩ g2 m2 d2 => by
    subst hy
    have ek := den_key d1
    subst ek
    obtain ⟨p, vs, e1, e2, n, _⟩ := hx.hp m2 d2
    exact ⟨p, _, e1, DGet.k e2, kk μ2 _ _ H2 hq (g1.trans g2) m2 (by unfold Den; rw [valV_none n])⟩
theorem evx_dnotin (h : EvX K W X μ ρ ta fun μ1 y => EvX K W X μ1 ρ tb fun μ2 x => ∃ ks ds k, DctD μ2 x ks ds ∧ y = keyD k ∧ Φ μ2 (.bl (!decide (k ∈ ks)))) : EvX K W X μ ρ (tDNotIn ta tb) Φ := fun σ H Q m e l kk =>
  h σ H _ m e l fun μ1 y w H1 h1 g1 m1 d1 => h1 σ H1 _ m1 (e.grow g1) (l.grow g1) fun μ2 x v H2 ⟨ks, ds, k, hx, hy, hq⟩ g2 m2 d2 => by
    subst hy
    have ek := den_key d1
    subst ek
    obtain ⟨p, vs, e1, e2, n, _⟩ := hx.hp m2 d2
    exact ⟨p, _, e1, DGet.k e2, kk μ2 _ _ H2 hq (g1.trans g2) m2 (by unfold Den; rw [valV_none n])⟩
abbrev rDictP (K : PySem.W.Frag) : List V → Hp → VK → Prop := fun xs H Q => ∃ (a : Addr) (ps : List Addr) (kvs : List (Key × V)), xs = [.ref a] ∧ SqL K H a (ps.map V.ref) ∧ Paired (fun p kv => SqT K H p [kV kv.1, kv.2]) ps kvs ∧
    ∀ p, H p = none → Q (.ref p) (upd H p (.dK (mergeK [] kvs)))
theorem pairs_den : ∀ {ks : List Key} {es : List D} {vs : List V}, ks.length = es.length → DenL K μ H ((ks.zip es).map fun p => .tup [keyD p.1, p.2]) vs → ∃ (ps : List Addr) (us : List V), vs = ps.map V.ref ∧ ks.length = us.length ∧ DenL K μ H es us ∧ Paired (fun p kv => SqT K H p [kV kv.1, kv.2]) ps (ks.zip us)
  | [], [], vs, _, h => by
    rw [List.zip_nil_left] at h
    unfold List.map DenL at h
    subst h
    exact ⟨[], [], rfl, rfl, DenL.nil, .nil⟩
  | [], _ :: _, vs, hl, _ => nomatch hl
  | _ :: _, [], vs, hl, _ => nomatch hl
  | k :: ks, d :: es, vs, hl, h => by
    rw [List.zip_cons_cons, List.map_cons] at h
    unfold DenL at h
    obtain ⟨w, ws, e1, a, b⟩ := h
    obtain ⟨ps, us, e2, n, b2, pr⟩ := pairs_den (by simpa using hl) b
    unfold Den at a
    obtain ⟨p, zs, e3, st, dz⟩ := a
    obtain ⟨z1, z2, e4, dk, dd⟩ := denL2 dz
    have ek := den_key dk
    subst ek e4 e3 e2 e1
    refine ⟨p :: ps, z2 :: us, rfl, by rw [List.length_cons, List.length_cons, n], DenL.cons dd b2, ?_⟩
    rw [List.zip_cons_cons]
    exact .cons st.sq pr
theorem mergeK_nd : ∀ {ks : List Key} {us : List V} {ks0 : List Key} {us0 : List V}, ks.length = us.length → ks0.length = us0.length → (ks0 ++ ks).Nodup → mergeK (ks0.zip us0) (ks.zip us) = (ks0 ++ ks).zip (us0 ++ us)
  | [], us, ks0, us0, h, h0, _ => by
    have : us = [] := List.eq_nil_of_length_eq_zero h.symm
    subst this
    rw [List.zip_nil_left, List.append_nil, List.append_nil]; rfl
  | k :: ks, [], ks0, us0, h, _, _ => nomatch h
  | k :: ks, u :: us, ks0, us0, h, h0, hn => by
    rw [List.zip_cons_cons]
    unfold mergeK
    rw [List.foldl_cons]
    show mergeK (putK (ks0.zip us0) k u) (ks.zip us) = _
    have hk : k ∉ ks0 := fun hm => by
      rw [List.nodup_append] at hn
      exact hn.2.2 _ hm _ (List.mem_cons_self ..) rfl
    rw [putK_zip hk h0, mergeK_nd (by simpa using h) (by rw [List.length_append, List.length_append, h0]; rfl) (by rw [List.append_assoc]; exact hn), List.append_assoc, List.append_assoc]
    rfl
/-- dict(pairs), all keys unlike -/
theorem cax_dictP {x : D} {S : Mu → Prop} {ks : List Key} {es : List D} (hd : IsL μ x ((ks.zip es).map fun p => .tup [keyD p.1, p.2]) S) (hl : ks.length = es.length) (hn : ks.Nodup) (h : Φ μ (.dct ks es)) : CaX K (rDictP K) μ [x] Φ := fun H vs Q m d k => by
  obtain ⟨v, e, a⟩ := denL1 d
  obtain ⟨p, us, e1, sq, b⟩ := isL_sq m hd a
  obtain ⟨ps, ws, e2, n, b2, pr⟩ := pairs_den hl b
  subst e e1 e2
  refine ⟨p, ps, ks.zip ws, rfl, sq, pr, fun q hq => ?_⟩
  have em := mergeK_nd (ks0 := []) (us0 := []) n rfl (by rw [List.nil_append]; exact hn)
  rw [List.zip_nil_left, List.nil_append, List.nil_append] at em
  rw [em]
  exact k _ _ _ _ h (Grow.new hq) (m.new hq) (by unfold Den; exact ⟨q, ws, rfl, ⟨m.free hq, upd_same⟩, n, DenL.grow (Grow.new hq) _ _ b2⟩)
end
/-! ### xs[lo:hi:step] -/
def stepIx (n : Nat) (lo hi : Option Int) (st : Int) : List Nat := sliceRange (sliceBounds lo hi (some st) n).1 (sliceBounds lo hi (some st) n).2.1 (sliceBounds lo hi (some st) n).2.2
def stepD {α : Type} (xs : List α) (lo hi : Option Int) (st : Int) : List α := (stepIx xs.length lo hi st).filterMap fun i => xs[i]?
def tStepL (K : PySem.W.Frag) (te : TE) (tl th : TO) (st : Int) : TE := fun σ H Q => te σ H fun x H1 => tl σ H1 fun lo H2 => th σ H2 fun hi H3 => ∃ a xs, x = .ref a ∧ SqL K H3 a xs ∧ ∀ p, H3 p = none → Q (.ref p) (upd H3 p (.lst (stepD xs lo hi st)))
theorem pe_stepL {X : Cx} {e : Expr} {te : TE} {lo hi : Option Expr} {tl th : TO} {k : Int} {kk : Nat} {p1 p3 pos : Pos} (h0 : k ≠ 0) (he : PE X e te) (hlo : PO X lo tl) (hhi : PO X hi th) : PE X (.Subscript e (.Slice lo hi (some (.Constant (.int k) kk p1)) p3) pos) (tStepL X.K te tl th k) := by
  refine ⟨fun pins s σ H Q I h => ?_⟩
  refine Subscript_ (thn (he.run pins s σ H _ I h) fun v s1 ⟨x, H1, I1, r1, q1⟩ => ?_)
  have hst : PO X (some (.Constant (.int k) kk p1)) (tPart (tC (.int k))) := po_some pe_int
  refine wpAny_Slice (thn (hlo.run pins s1 σ H1 _ I1 q1) fun vl s2 ⟨l, H2, I2, pl, q2⟩ => ?_)
  refine thn (hhi.run pins s2 σ H2 _ I2 q2) fun vu s3 ⟨u, H3, I3, pu, a, xs, ex, hx, q⟩ => ?_
  subst ex
  cases r1
  refine thn (hst.run pins s3 σ H3 (fun o H4 => o = some k ∧ H4 = H3) I3 ⟨k, rfl, rfl, rfl⟩) fun vs s4 ⟨o, H4, I4, ps, eo, e4⟩ => ?_
  subst eo e4
  have I5 : Inv X pins σ H4 { s4 with heap := s4.heap.push { cls := .type "slice", data := .fields #[vl, vu, vs] } } := I4.kept (t' := s4.toks) fun b ob q => Heap.get?_push_of_some _ q
  obtain ⟨its, r, ht, hz⟩ := I5.list hx
  have hlen := r.length
  show wpAny (model X.prog X.w) X.A (subscriptTail e (.Slice lo hi (some (.Constant (.int k) kk p1)) p3) (.ref a) (.ref s4.heap.objs.size)) (EP X pins σ Q) X.xe { s4 with heap := s4.heap.push { cls := .type "slice", data := .fields #[vl, vu, vs] } }
  refine tail_any (ops := [.ref a, .ref s4.heap.objs.size]) ht.isList.typeIs (PySem.slot_list_getitem.lookup) ?_ (by with_unfolding_all rfl)
  refine wpAny_getItem_list_slice ht.isList (Heap.IsSliceOf.new _ vl vu vs) pl pu ps (by simpa using h0) ?_ (by rw [List.size_toArray]; omega)
  have hv : Vals (stepD xs l u k) ((stepIx xs.length l u k).filterMap fun i => its[i]?) := perm_vals r
  have hpk : slicePick its.toArray l u (some k) = ((stepIx xs.length l u k).filterMap fun i => its[i]?).toArray := by
    unfold slicePick stepIx
    rw [List.size_toArray, hlen]
    congr 1
    congr 1
    funext i
    exact List.getElem?_toArray ..
  rw [hpk]
  refine ⟨.ref _, _, I5.laid (t' := s4.toks) (o := .lst (stepD xs l u k)) (fun b ob q => Heap.get?_push_of_some _ q) (Nat.le_refl _) ?_, rfl, q _ (I5.hok.fresh (Nat.le_refl _))⟩
  refine ⟨?_, _, 0, hv, Heap.get?_push_size _ rfl⟩
  have h1 := slicePick_size_le its.toArray l u (some k)
  rw [hpk, List.size_toArray, List.size_toArray, ← hv.length, ← hlen] at h1
  exact Nat.le_trans h1 hz
section
variable {K : PySem.W.Frag} {W : WX} {X : XD} {μ : Mu} {H : Hp} {ρ : Ro} {Φ : DP} {ta tb tv te : TE} {tl th : TO} {E : ED} {st : Int} {n : Nat} {P : PD} {tk : TA}
theorem evx_stepL (h : EvX K W X μ ρ te fun μ1 x => EvO K W X μ1 ρ tl fun μ2 l => EvO K W X μ2 ρ th fun μ3 u => ∃ ds S, IsL μ3 x ds S ∧ Φ μ3 (.lst (stepD ds l u st))) : EvX K W X μ ρ (tStepL K te tl th st) Φ := fun σ H Q m e l k =>
  h σ H _ m e l fun μ1 x v H1 h1 g1 m1 d1 => h1 σ H1 _ m1 (e.grow g1) (l.grow g1) fun μ2 lo H2 h2 g2 m2 => h2 σ H2 _ m2 ((e.grow g1).grow g2) ((l.grow g1).grow g2) fun μ3 hi H3 ⟨ds, S, hd, hq⟩ g3 m3 => by
    obtain ⟨p, vs, e1, sq, b⟩ := isL_sq m3 hd (Den.grow (g2.trans g3) _ _ d1)
    refine ⟨p, vs, e1, sq, fun q hq' => k _ _ _ _ hq (((g1.trans g2).trans g3).trans (Grow.new hq')) (m3.new hq') ?_⟩
    unfold Den
    refine ⟨q, _, rfl, ⟨m3.free hq', upd_same⟩, ?_⟩
    unfold stepD
    rw [b.length]
    exact DenL.grow (Grow.new hq') _ _ (perm_den b)
/-- xs[::-1] -/
theorem evx_revL (h : EvX K W X μ ρ te fun μ1 x => ∃ ds S, IsL μ1 x ds S ∧ Φ μ1 (.lst ds.reverse)) : EvX K W X μ ρ (tRevL K te) Φ := fun σ H Q m e l k =>
  h σ H _ m e l fun μ1 x v H1 ⟨ds, S, hd, hq⟩ g1 m1 d1 => by
    obtain ⟨p, vs, e1, sq, b⟩ := isL_sq m1 hd d1
    exact ⟨p, vs, e1, sq, fun q hq' => k _ _ _ _ hq (g1.trans (Grow.new hq')) (m1.new hq') (by
      unfold Den
      exact ⟨q, _, rfl, ⟨m1.free hq', upd_same⟩, DenL.grow (Grow.new hq') _ _ b.reverse⟩)⟩
/-- what a slice keeps -/
theorem cut_to {α : Type} (f : α → D) (xs : List α) (k : Nat) : cutD (xs.map f) none (some (k : Int)) = (xs.take k).map f := by
  unfold cutD
  simp only [HT.sIx_none, HT.sIx_nat]
  rw [List.drop_zero, Nat.sub_zero, List.length_map, ← List.map_take]
  congr 1
  exact List.take_eq_take_iff.mpr (by omega)
theorem cut_from {α : Type} (f : α → D) (xs : List α) (k : Nat) : cutD (xs.map f) (some (k : Int)) none = (xs.drop k).map f := by
  unfold cutD
  simp only [HT.sIx_none, HT.sIx_nat]
  rw [List.length_map, ← List.map_drop, ← List.map_take]
  congr 1
  rw [List.take_of_length_le (by rw [List.length_drop]; omega)]
  rcases Nat.lt_or_ge k xs.length with h | h
  · rw [Nat.min_eq_left (by omega)]
  · rw [Nat.min_eq_right h, List.drop_eq_nil_of_le (Nat.le_refl _), List.drop_eq_nil_of_le h]
/-- a pure call by keywords over live data -/
theorem evx_ckZ {a b : Nat} {pm : List Nat} (i : Nat) (h : EvL K W X μ ρ tk fun μ1 es => (permG a b pm [] es).length = n ∧ P muN ((permG a b pm [] es).map (seeF μ1 i)) (fun _ d => scal d = true ∧ Φ μ1 d) excN) : EvX K W X μ ρ (tCallK (spD K n P) (permG a b pm) E0 tNil tk) Φ := fun σ H Q m e l k =>
  h σ H _ m e l fun μ1 es vs H1 ⟨hl, hp⟩ g1 m1 d1 => ⟨muN, (permG a b pm [] es).map (seeF μ1 i), _, excN, mem_muN, by rw [← seeFs_map]; exact (den_seeF m1 i).2 _ _ (permG_den DenL.nil d1), by rw [List.length_map]; exact hl, hp, fun μ' d v H' ⟨hs, hq⟩ g mm dd =>
    k μ1 d v H' hq (g1.trans fun b u hb e => ⟨hb, (g b u rfl e).2⟩) (mem_whole m1 g) (den_scal hs dd), fun _ _ _ _ _ _ z => z.elim⟩
end
theorem pi_via {X : Cx} {tg e : Expr} {w w' : TI} (h : PI X tg e w') (hk : w' = w) : PI X tg e w := hk ▸ h
theorem pc_dinBk {X : Cx} {s : Shared} {H : Hp} {sc : Scope} {ce : Env} {fp : List Addr} {i o : Expr} {ty td : TE} (hu : X.A.units + 1 < cLine) (hi : PE (X.blk s H sc ce fp) i ty) (ho : PE (X.blk s H sc ce fp) o td) : PC (X.blk s H sc ce fp) .In i o (tDIn ty td) := pc_din (X := X.blk s H sc ce fp) hu hi ho
theorem pc_dnotinBk {X : Cx} {s : Shared} {H : Hp} {sc : Scope} {ce : Env} {fp : List Addr} {i o : Expr} {ty td : TE} (hu : X.A.units + 1 < cLine) (hi : PE (X.blk s H sc ce fp) i ty) (ho : PE (X.blk s H sc ce fp) o td) : PC (X.blk s H sc ce fp) .NotIn i o (tDNotIn ty td) := pc_dnotin (X := X.blk s H sc ce fp) hu hi ho
/-! ### [e for x in xs for y in ys] -/
section
variable {K : PySem.W.Frag} {W : WX} {X : XD} {μ : Mu} {ρ : Ro} {Φ : DP} {te : TE} {g g1 : TG} {wi wi1 : TI}
theorem evx_lc2P {vs vs1 : List Nat} (h : ItX K W X μ ρ wi fun μ1 ds S => (∀ m : Mu, (∀ b o, μ1 b = some o → m b = some o) → S m) ∧ ∃ (fs : D → List D),
    (∀ d, d ∈ ds → ∀ μ' : Mu, (∀ b o, μ1 b = some o → μ' b = some o) → TcX K W X vs μ' (wipeD ρ vs) g d fun μ2 ρ2 => ItX K W X μ2 ρ2 wi1 fun μ3 es S1 => μ3 = μ2 ∧ (∀ m, S1 m) ∧ es.length = (fs d).length ∧
      ∀ (j : Nat) (e : D), es[j]? = some e → ∀ μ'' : Mu, (∀ b o, μ1 b = some o → μ'' b = some o) → TcX K W X vs1 μ'' (wipeD ρ2 vs1) g1 e fun μ4 ρ4 => EvX K W X μ4 ρ4 te fun μ5 y => μ5 = μ4 ∧ (fs d)[j]? = some y) ∧
    (ds.flatMap fs).length ≤ 1000000 ∧ Φ μ1 (.lst (ds.flatMap fs))) : EvX K W X μ ρ (tLc2 wi g tYes wi1 g1 tYes te vs vs1) Φ := fun σ H Q m e l k => by
  refine h σ H _ m e l fun μ1 ds S J H1 ⟨hS, fs, hp, hlen, hq⟩ gr1 m1 ok Dl hD => ?_
  have hDm := m1.free hD
  have up : ∀ acc : List D, ∀ b o, μ1 b = some o → mput μ1 Dl (.lst acc) b = some o := fun acc b o e => by
    rw [mput_ne (fun z => by rw [z, hDm] at e; cases e)]; exact e
  have cutp : ∀ acc : List D, mcut (mput μ1 Dl (.lst acc)) Dl = μ1 := fun acc => by
    funext b
    by_cases hb : b = Dl
    · rw [hb, mcut_same, hDm]
    · rw [mcut_ne hb, mput_ne hb]
  have putp : ∀ acc acc' : List D, mput (mput μ1 Dl (.lst acc)) Dl (.lst acc') = mput μ1 Dl (.lst acc') := fun acc acc' => by
    funext b
    by_cases hb : b = Dl
    · rw [hb, mput_same, mput_same]
    · rw [mput_ne hb, mput_ne hb, mput_ne hb]
  obtain ⟨G, Y, w, hG, hY⟩ := ok.w
  have gn : Grow μ1 H1 (mput μ1 Dl (.lst [])) (upd H1 Dl (.lst [])) := Grow.newM hD
  have e1 := wipe_env (vs := vs) (e.grow gr1)
  let Pv : List D → Hp → Prop := fun acc H' => Grow μ1 H1 (mput μ1 Dl (.lst acc)) H' ∧ Mem K (mput μ1 Dl (.lst acc)) H'
  refine ⟨fun i m H' => m = ds.length - i ∧ i ≤ ds.length ∧ Pv ((ds.take i).flatMap fs) H', ⟨ds.length, by simp, Nat.zero_le _, gn, m1.newM hD ⟨[], upd_same, DenL.nil⟩⟩, ?_⟩
  rintro i mm H' ⟨rfl, hi, gr, me⟩
  have q := hG _ H' gr me (hS _ (up _))
  by_cases hlt : i < ds.length
  · refine .inr ⟨w.goes i H' hlt q, Pv ((ds.take (i + 1)).flatMap fs), fun H'' p' => ⟨ds.length - (i + 1), by omega, rfl, hlt, p'⟩, fun x H'' y => ?_⟩
    have hdi : ds[i]? = some ds[i] := List.getElem?_eq_getElem hlt
    have y0 := w.yields i H' x H'' hlt q y
    obtain ⟨q1, q2, q3⟩ := hY i _ H' x H'' ds[i] gr me (hS _ (up _)) y0 hdi
    have gg := gr.trans q1
    refine hp ds[i] (List.getElem_mem hlt) _ (up _) (wipe σ vs) H'' x _ q2 (e1.grow gg) q3 fun ρ2 σ2 it e2 hw => ⟨by rw [hw, wipe_wipe], ?_⟩
    unfold tYes
    dsimp only
    rw [if_pos rfl]
    refine it σ2 H'' _ q2 e2 (l.grow (gr1.trans gg)) fun μ3 es S1 J1 H4 ⟨e3, hS1, hle, hin⟩ g3 m3 ok1 => ?_
    subst e3
    obtain ⟨G1, Y1, w1, hG1, hY1⟩ := ok1.w
    have hfl : ds.take (i + 1) = ds.take i ++ [ds[i]] := by rw [List.take_succ, hdi]; rfl
    have hacc : (ds.take (i + 1)).flatMap fs = (ds.take i).flatMap fs ++ fs ds[i] := by
      rw [hfl, List.flatMap_append]
      show _ ++ (fs ds[i] ++ []) = _
      rw [List.append_nil]
    have hle2 : ((ds.take (i + 1)).flatMap fs).length ≤ 1000000 := by
      refine Nat.le_trans ?_ hlen
      conv => rhs; rw [← List.take_append_drop (i + 1) ds, List.flatMap_append, List.length_append]
      omega
    rw [hacc, List.length_append] at hle2
    let A := (ds.take i).flatMap fs
    refine ⟨fun j k H5 => k = es.length - j ∧ j ≤ es.length ∧ Grow (mput μ1 Dl (.lst A)) H4 (mput μ1 Dl (.lst (A ++ (fs ds[i]).take j))) H5 ∧ Pv (A ++ (fs ds[i]).take j) H5, ⟨es.length, by simp, Nat.zero_le _, by rw [List.take_zero, List.append_nil]; exact Grow.refl _ _, by rw [List.take_zero, List.append_nil]; exact ⟨gg.trans g3, m3⟩⟩, ?_⟩
    rintro j kk H5 ⟨rfl, hj, gz, g5, m5⟩
    have hs1 := hG1 _ H5 gz m5 (hS1 _)
    by_cases hjl : j < es.length
    · refine .inr ⟨w1.goes j H5 hjl hs1, fun H6 => Grow (mput μ1 Dl (.lst A)) H4 (mput μ1 Dl (.lst (A ++ (fs ds[i]).take (j + 1)))) H6 ∧ Pv (A ++ (fs ds[i]).take (j + 1)) H6, fun H6 p' => ⟨es.length - (j + 1), by omega, rfl, hjl, p'⟩, fun x1 H6 y1 => ?_⟩
      have hej : es[j]? = some es[j] := List.getElem?_eq_getElem hjl
      have y2 := w1.yields j H5 x1 H6 hjl hs1 y1
      obtain ⟨r1, r2, r3⟩ := hY1 j _ H5 x1 H6 es[j] gz m5 (hS1 _) y2 hej
      have gz2 := gz.trans r1
      have e5 := wipe_env (vs := vs1) ((e2.grow g3).grow gz2)
      have lg : LiftX K (mput μ1 Dl (.lst (A ++ (fs ds[i]).take j))) H6 X W := l.grow ((gr1.trans g5).trans r1)
      refine hin j es[j] hej _ (up _) (wipe σ2 vs1) H6 x1 _ r2 e5 r3 fun ρ4 σ4 p4 e4 hw4 => ⟨by rw [hw4, wipe_wipe], ?_⟩
      first | (dsimp only; rw [if_pos rfl]) | (unfold tYes; dsimp only; rw [if_pos rfl])
      refine p4 σ4 H6 _ r2 e4 lg fun μ5 yd yv H7 ⟨e6, hy⟩ g7 m7 dy => ?_
      subst e6
      have hl7 : mput μ1 Dl (.lst (A ++ (fs ds[i]).take j)) Dl = some (.lst (A ++ (fs ds[i]).take j)) := mput_same
      obtain ⟨us, hu, hb⟩ := m7 Dl _ hl7
      have et : (fs ds[i]).take (j + 1) = (fs ds[i]).take j ++ [yd] := by rw [List.take_succ, hy]; rfl
      have hsz : (A ++ (fs ds[i]).take j).length ≤ 1000000 := by
        rw [List.length_append]
        have h1 : ((fs ds[i]).take j).length ≤ (fs ds[i]).length := List.length_take_le' ..
        show ((ds.take i).flatMap fs).length + _ ≤ _
        omega
      have m8 := m7.wr (mo' := .lst ((A ++ (fs ds[i]).take j) ++ [yd])) hl7 ⟨us ++ [yv], upd_same, (DenL.grow (Grow.wr hl7) _ _ hb).append (DenL.cons (Den.grow (Grow.wr hl7) _ _ dy) DenL.nil)⟩
      have g8 : Grow (mput μ1 Dl (.lst (A ++ (fs ds[i]).take j))) H7 (mput (mput μ1 Dl (.lst (A ++ (fs ds[i]).take j))) Dl (.lst ((A ++ (fs ds[i]).take j) ++ [yd]))) (upd H7 Dl (.lst (us ++ [yv]))) := Grow.wr hl7
      rw [putp] at m8 g8
      rw [List.append_assoc, ← et] at m8 g8
      exact ⟨us, hu, by rw [← hb.length]; exact Nat.lt_of_le_of_lt hsz (by decide), (gz2.trans g7).trans g8, ((g5.trans r1).trans g7).trans g8, m8⟩
    · have e9 : j = es.length := by omega
      subst e9
      have ef : (fs ds[i]).take es.length = fs ds[i] := by rw [hle, List.take_length]
      rw [ef] at g5 m5
      refine .inl ⟨w1.stops H5 hs1, ?_⟩
      show Pv ((ds.take (i + 1)).flatMap fs) H5
      rw [hacc]
      exact ⟨g5, m5⟩
  · have ei : i = ds.length := by omega
    subst ei
    refine .inl ⟨w.stops H' q, ?_⟩
    rw [List.take_length] at gr me
    obtain ⟨us, hu, hb⟩ := me Dl _ mput_same
    have mc := me.cut (a := Dl)
    have gc : Grow μ1 H1 (mcut (mput μ1 Dl (.lst (ds.flatMap fs))) Dl) H' := gr.trans Grow.cut
    have db := DenL.less (Less.cut (a := Dl)) _ _ hb
    rw [cutp] at mc gc db
    exact k μ1 _ _ H' hq (gr1.trans gc) mc (by unfold Den; exact ⟨Dl, us, rfl, ⟨hDm, hu⟩, db⟩)
end
/-! ### numbers of the program: fractions -/
def numD (a b : Int) : D := .tup [.int a, .int b]
/-- the program's number of a fraction -/
def numQ (q : Rat) : D := numD q.num q.den
theorem numQ_inj {q r : Rat} (h : numQ q = numQ r) : q = r := by
  unfold numQ numD at h
  injection h with h
  injection h with h1 h2
  injection h2 with h2 _
  injection h1 with h1
  injection h2 with h2
  exact Rat.ext h1 (Int.ofNat.inj h2)
theorem rat_eq {q : Rat} {a b : Int} (hb : 0 < b) (hg : Nat.gcd a.natAbs b.natAbs = 1) (h : (a : Rat) = q * b) : q.num = a ∧ (q.den : Int) = b := by
  obtain ⟨d, rfl⟩ := Int.eq_ofNat_of_zero_le (Int.le_of_lt hb)
  have hd : d ≠ 0 := by omega
  have e : q = ⟨a, d, hd, by simpa using hg⟩ := by
    rw [Rat.mk_eq_divInt, Rat.divInt_eq_div, h]
    have : ((d : Int) : Rat) ≠ 0 := by
      intro z
      have : ((d : Int) : Rat) = ((0 : Int) : Rat) := z
      rw [Rat.intCast_inj] at this
      omega
    grind
  rw [e]
  exact ⟨rfl, rfl⟩
/-- a fraction by any two ints -/
theorem num_by {q : Rat} {a b : Int} (hb : b ≠ 0) : q = (a : Rat) / (b : Rat) ↔ (a : Rat) = q * b := by
  have : (b : Rat) ≠ 0 := by
    intro z
    have : (b : Rat) = ((0 : Int) : Rat) := z
    rw [Rat.intCast_inj] at this
    exact hb this
  grind
theorem rat_num_den (q : Rat) : (q.num : Rat) = q * ((q.den : Int) : Rat) := by
  have h := Rat.num_divInt_den q
  rw [Rat.divInt_eq_div] at h
  exact ((num_by (q := q) (a := q.num) (b := q.den) (by have := q.den_pos; omega)).mp h.symm)
theorem gcd_lower {a b : Int} (h : b ≠ 0) : ∃ (G x y : Int), 0 < G ∧ ((Nat.gcd a.natAbs b.natAbs : Nat) : Int) = G ∧ a = G * x ∧ b = G * y ∧ Nat.gcd x.natAbs y.natAbs = 1 := by
  have hg : 0 < Nat.gcd a.natAbs b.natAbs := Nat.gcd_pos_of_pos_right _ (by omega)
  obtain ⟨x, hx⟩ : ((Nat.gcd a.natAbs b.natAbs : Nat) : Int) ∣ a := Int.ofNat_dvd_left.mpr (Nat.gcd_dvd_left _ _)
  obtain ⟨y, hy⟩ : ((Nat.gcd a.natAbs b.natAbs : Nat) : Int) ∣ b := Int.ofNat_dvd_left.mpr (Nat.gcd_dvd_right _ _)
  refine ⟨_, x, y, by omega, rfl, hx, hy, ?_⟩
  have e1 : a.natAbs = Nat.gcd a.natAbs b.natAbs * x.natAbs := by
    conv => lhs; rw [hx]
    rw [Int.natAbs_mul]; rfl
  have e2 : b.natAbs = Nat.gcd a.natAbs b.natAbs * y.natAbs := by
    conv => lhs; rw [hy]
    rw [Int.natAbs_mul]; rfl
  have e3 : Nat.gcd a.natAbs b.natAbs * Nat.gcd x.natAbs y.natAbs = Nat.gcd a.natAbs b.natAbs := by
    rw [← Nat.gcd_mul_left, ← e1, ← e2]
  exact Nat.eq_of_mul_eq_mul_left hg (by rw [e3, Nat.mul_one])
/-- the sign of what lies below -/
theorem low_quot {a b s : Int} (h : b ≠ 0) (hs : s = if b < 0 then -((Nat.gcd a.natAbs b.natAbs : Nat) : Int) else ((Nat.gcd a.natAbs b.natAbs : Nat) : Int)) : numD (a.fdiv s) (b.fdiv s) = numQ ((a : Rat) / (b : Rat)) := by
  obtain ⟨G, x, y, hG, eG, ea, eb, hc⟩ := gcd_lower (a := a) h
  rw [eG] at hs
  have hy0 : y ≠ 0 := by rintro rfl; rw [Int.mul_zero] at eb; exact h eb
  have fin : ∀ x' y' : Int, 0 < y' → Nat.gcd x'.natAbs y'.natAbs = 1 → a * y' = x' * b → numD x' y' = numQ ((a : Rat) / (b : Rat)) := by
    intro x' y' h1 h2 h3
    have e : (x' : Rat) = ((a : Rat) / (b : Rat)) * (y' : Rat) := by
      have hb : (b : Rat) ≠ 0 := by
        intro z
        have : (b : Rat) = ((0 : Int) : Rat) := z
        rw [Rat.intCast_inj] at this
        exact h this
      have : (a : Rat) * (y' : Rat) = (x' : Rat) * (b : Rat) := by
        rw [← Rat.intCast_mul, ← Rat.intCast_mul, h3]
      grind
    obtain ⟨e1, e2⟩ := rat_eq h1 h2 e
    unfold numQ
    rw [e1, e2]
  by_cases hb : b < 0
  · rw [if_pos hb] at hs
    rw [hs]
    have e1 : a.fdiv (-G) = -x := by rw [ea, show G * x = (-G) * (-x) by grind, Int.mul_fdiv_cancel_left _ (by omega)]
    have e2 : b.fdiv (-G) = -y := by rw [eb, show G * y = (-G) * (-y) by grind, Int.mul_fdiv_cancel_left _ (by omega)]
    rw [e1, e2]
    have hy : y < 0 := by
      rcases Int.lt_trichotomy y 0 with q | q | q
      · exact q
      · exact absurd q hy0
      · have := Int.mul_pos hG q; omega
    exact fin _ _ (by omega) (by rw [Int.natAbs_neg, Int.natAbs_neg]; exact hc) (by rw [ea, eb]; grind)
  · rw [if_neg hb] at hs
    rw [hs]
    have e1 : a.fdiv G = x := by rw [ea, Int.mul_fdiv_cancel_left _ (by omega)]
    have e2 : b.fdiv G = y := by rw [eb, Int.mul_fdiv_cancel_left _ (by omega)]
    rw [e1, e2]
    have hy : 0 < y := by
      rcases Int.lt_trichotomy y 0 with q | q | q
      · have := Int.mul_neg_of_pos_of_neg hG q; omega
      · exact absurd q hy0
      · exact q
    exact fin _ _ hy hc (by rw [ea, eb]; grind)
/-! ### how great the two ints are -/
def Sz (n : Nat) (q : Rat) : Prop := q.num.natAbs < 2 ^ n ∧ q.den < 2 ^ n
theorem Sz.mono {n m : Nat} {q : Rat} (h : Sz n q) (hm : n ≤ m) : Sz m q := ⟨Nat.lt_of_lt_of_le h.1 (Nat.pow_le_pow_right (by decide) hm), Nat.lt_of_lt_of_le h.2 (Nat.pow_le_pow_right (by decide) hm)⟩
/-- a fraction by two ints is no greater than they -/
theorem div_le {q : Rat} {a b : Int} (hb : b ≠ 0) (h : (a : Rat) = q * b) : q.num.natAbs ≤ a.natAbs ∧ q.den ≤ b.natAbs := by
  have e : a * (q.den : Int) = q.num * b := by
    rw [← Rat.intCast_inj, Rat.intCast_mul, Rat.intCast_mul, h, rat_num_den q]
    grind
  have hd : q.den ∣ b.natAbs := by
    have h1 : (q.den : Int) ∣ q.num * b := ⟨a, by rw [← e]; grind⟩
    have h2 : q.den ∣ q.num.natAbs * b.natAbs := by
      have := Int.natAbs_dvd_natAbs.mpr h1
      rwa [Int.natAbs_mul] at this
    exact Nat.Coprime.dvd_of_dvd_mul_left (Nat.Coprime.symm q.reduced) h2
  obtain ⟨k, hk⟩ := hd
  have hk0 : 0 < k := Nat.pos_of_ne_zero (by rintro rfl; rw [Nat.mul_zero] at hk; omega)
  refine ⟨?_, by rw [hk]; exact Nat.le_mul_of_pos_right _ hk0⟩
  have e2 : a.natAbs * q.den = q.num.natAbs * b.natAbs := by
    have := congrArg Int.natAbs e
    rw [Int.natAbs_mul, Int.natAbs_mul] at this
    exact this
  rw [hk] at e2
  have e3 : a.natAbs = q.num.natAbs * k := by
    refine Nat.eq_of_mul_eq_mul_right q.den_pos ?_
    rw [e2]
    grind
  rw [e3]
  exact Nat.le_mul_of_pos_right _ hk0
theorem Sz.div {n : Nat} {a b : Int} (hb : b ≠ 0) (h1 : a.natAbs < 2 ^ n) (h2 : b.natAbs < 2 ^ n) : Sz n ((a : Rat) / (b : Rat)) := by
  obtain ⟨e1, e2⟩ := div_le (q := (a : Rat) / (b : Rat)) hb ((num_by hb).mp rfl)
  exact ⟨Nat.lt_of_le_of_lt e1 h1, Nat.lt_of_le_of_lt e2 h2⟩
theorem lt_pow_mul {a b n m : Nat} (h1 : a < 2 ^ n) (h2 : b < 2 ^ m) : a * b < 2 ^ (n + m) := by
  rw [Nat.pow_add]
  exact Nat.mul_lt_mul'' h1 h2
theorem lt_pow_add {a b n : Nat} (h1 : a < 2 ^ n) (h2 : b < 2 ^ n) : a + b < 2 ^ (n + 1) := by
  rw [Nat.pow_succ]; omega
theorem add_by (q r : Rat) : ((q.num * r.den + r.num * q.den : Int) : Rat) = (q + r) * ((q.den * r.den : Int) : Rat) := by
  rw [Rat.intCast_add, Rat.intCast_mul, Rat.intCast_mul, Rat.intCast_mul, rat_num_den q, rat_num_den r]
  grind
theorem mul_by (q r : Rat) : ((q.num * r.num : Int) : Rat) = (q * r) * ((q.den * r.den : Int) : Rat) := by
  rw [Rat.intCast_mul, Rat.intCast_mul, rat_num_den q, rat_num_den r]
  grind
theorem den_ne (q : Rat) : (q.den : Int) ≠ 0 := by have := q.den_pos; omega
theorem Sz.add {n m : Nat} {q r : Rat} (h1 : Sz n q) (h2 : Sz m r) : Sz (n + m + 1) (q + r) := by
  obtain ⟨e1, e2⟩ := div_le (Int.mul_ne_zero (den_ne q) (den_ne r)) (add_by q r)
  refine ⟨Nat.lt_of_le_of_lt e1 ?_, Nat.lt_of_le_of_lt e2 ?_⟩
  · refine Nat.lt_of_le_of_lt (Int.natAbs_add_le _ _) ?_
    rw [Int.natAbs_mul, Int.natAbs_mul, Int.natAbs_natCast, Int.natAbs_natCast]
    exact lt_pow_add (lt_pow_mul h1.1 h2.2) (by rw [Nat.add_comm n m]; exact lt_pow_mul h2.1 h1.2)
  · rw [Int.natAbs_mul, Int.natAbs_natCast, Int.natAbs_natCast]
    exact Nat.lt_of_lt_of_le (lt_pow_mul h1.2 h2.2) (Nat.pow_le_pow_right (by decide) (by omega))
theorem Sz.mul {n m : Nat} {q r : Rat} (h1 : Sz n q) (h2 : Sz m r) : Sz (n + m) (q * r) := by
  obtain ⟨e1, e2⟩ := div_le (Int.mul_ne_zero (den_ne q) (den_ne r)) (mul_by q r)
  refine ⟨Nat.lt_of_le_of_lt e1 ?_, Nat.lt_of_le_of_lt e2 ?_⟩
  · rw [Int.natAbs_mul]
    exact lt_pow_mul h1.1 h2.1
  · rw [Int.natAbs_mul, Int.natAbs_natCast, Int.natAbs_natCast]
    exact lt_pow_mul h1.2 h2.2
theorem sz0 (n : Nat) (h : 1 ≤ n) : Sz n 0 := ⟨Nat.two_pow_pos _, Nat.lt_of_lt_of_le (by decide : 1 < 2 ^ 1) (Nat.pow_le_pow_right (by decide) h)⟩
theorem sz1 (n : Nat) (h : 1 ≤ n) : Sz n 1 := ⟨Nat.lt_of_lt_of_le (by decide : 1 < 2 ^ 1) (Nat.pow_le_pow_right (by decide) h), Nat.lt_of_lt_of_le (by decide : 1 < 2 ^ 1) (Nat.pow_le_pow_right (by decide) h)⟩
/-! ### texts of signs, numbers: what many laws use -/
/-- the text of one sign -/
def sg (c : Nat) : Str := ⟨#[c]⟩
theorem join_sg : ∀ cs : List Nat, (Str.join ⟨#[]⟩ (cs.map sg)).cps.toList = cs
  | [] => rfl
  | [c] => rfl
  | c :: c' :: cs => by
    have ih := join_sg (c' :: cs)
    show ((sg c).cps ++ #[] ++ (Str.join ⟨#[]⟩ ((c' :: cs).map sg)).cps).toList = _
    rw [Array.toList_append, ih]
    rfl
theorem join_sg' (cs : List Nat) : Txt.join ⟨#[]⟩ (cs.map sg) = ⟨cs.toArray⟩ := by
  rw [TL.join_eq]
  have h := join_sg cs
  generalize Str.join ⟨#[]⟩ (cs.map sg) = z at h
  obtain ⟨a⟩ := z
  simp only at h
  rw [← h]
theorem rising_sg : ∀ (c : Nat) (cs : List Nat), risingS (sg c) (cs.map sg) = true → (c :: cs).Pairwise (· ≤ ·)
  | c, [], _ => List.pairwise_singleton _ _
  | c, d :: cs, h => by
    rw [List.map_cons] at h
    unfold risingS at h
    rw [Bool.and_eq_true] at h
    have ih := rising_sg d cs h.2
    have h1 : c ≤ d := by
      have h2 := h.1
      simp only [sg, ltCps, Bool.not_eq_true', Bool.or_eq_false_iff, decide_eq_false_iff_not] at h2
      omega
    refine List.Pairwise.cons (fun e he => ?_) ih
    rcases List.mem_cons.mp he with e1 | e1
    · omega
    · have := (List.pairwise_cons.mp ih).1 e e1
      omega
theorem sorted_sg : ∀ cs : List Nat, sortedS (cs.map sg) = true → cs.Pairwise (· ≤ ·)
  | [], _ => List.Pairwise.nil
  | c :: cs, h => rising_sg c cs h
/-- one to three letters, ascending -/
def Signs (z : Str) : Prop := z.cps.toList.Pairwise (· < ·) ∧ (∀ c ∈ z.cps.toList, 97 ≤ c ∧ c ≤ 122) ∧ 1 ≤ z.cps.toList.length ∧ z.cps.toList.length ≤ 3
def letters : List Nat := (Str.ofString "abcdefghijklmnopqrstuvwxyz").cps.toList
theorem letters_nd : letters.Nodup := by decide +kernel
theorem letters_in : ∀ c ∈ letters, 97 ≤ c ∧ c ≤ 122 := by decide +kernel
theorem letters_len : letters.length = 26 := by decide +kernel
theorem perm_map_sg {zs : List Str} : ∀ {cs : List Nat}, zs.Perm (cs.map sg) → ∃ es : List Nat, zs = es.map sg ∧ es.Perm cs := fun {cs} h => by
  refine ⟨zs.map fun z => z.cps.toList.headD 0, ?_, ?_⟩
  · rw [List.map_map]
    have : ∀ z ∈ zs, (sg ∘ fun z : Str => z.cps.toList.headD 0) z = z := fun z hz => by
      obtain ⟨c, _, rfl⟩ := List.mem_map.mp (h.mem_iff.mp hz)
      rfl
    conv => lhs; rw [← List.map_id zs]
    exact (List.map_congr_left fun z hz => (this z hz).symm)
  · have := h.map fun z : Str => z.cps.toList.headD 0
    rw [List.map_map] at this
    have e : ((fun z : Str => z.cps.toList.headD 0) ∘ sg) = id := by funext c; rfl
    rw [e, List.map_id] at this
    exact this
theorem signs_mk {zs : List Str} {es : List Nat} (hp : zs.Perm (es.map sg)) (hs : sortedS zs = true) (hn : es.Nodup) (hi : ∀ c ∈ es, c ∈ letters) (h1 : 1 ≤ es.length) (h3 : es.length ≤ 3) : ∃ z, Txt.join (Str.ofString "") zs = z ∧ Signs z := by
  obtain ⟨fs, rfl, hf⟩ := perm_map_sg hp
  refine ⟨_, rfl, ?_⟩
  have e : Txt.join (Str.ofString "") (fs.map sg) = ⟨fs.toArray⟩ := join_sg' fs
  rw [e]
  have hle := sorted_sg fs hs
  have hnd : fs.Nodup := hf.nodup_iff.mpr hn
  refine ⟨?_, fun c hc => letters_in c (hi c (hf.mem_iff.mp (by simpa using hc))), ?_, ?_⟩
  · show fs.toArray.toList.Pairwise _
    rw [List.toList_toArray]
    exact (List.Pairwise.and hle hnd).imp fun {a b} h => Nat.lt_of_le_of_ne h.1 h.2
  · show 1 ≤ fs.toArray.toList.length
    rw [List.toList_toArray, hf.length_eq]; exact h1
  · show fs.toArray.toList.length ≤ 3
    rw [List.toList_toArray, hf.length_eq]; exact h3
def sgD (c : Nat) : D := .str (sg c)
theorem sgD_map (cs : List Nat) : cs.map sgD = (cs.map sg).map D.str := by rw [List.map_map]; rfl
theorem signsD_eq (z : Str) : signsD z = z.cps.toList.map sgD := rfl
theorem perm_erase : ∀ {cs : List Nat} {k : Nat} (hk : k < cs.length), (cs[k] :: cs.eraseIdx k).Perm cs
  | c :: cs, 0, _ => List.Perm.refl _
  | c :: cs, k + 1, hk => by
    have ih := perm_erase (cs := cs) (k := k) (by rw [List.length_cons] at hk; omega)
    exact (List.Perm.swap _ _ _).trans (List.Perm.cons c ih)
theorem map_erase {α β : Type} (f : α → β) : ∀ (cs : List α) (k : Nat), (cs.map f).eraseIdx k = (cs.eraseIdx k).map f
  | [], _ => rfl
  | c :: cs, 0 => rfl
  | c :: cs, k + 1 => by
    show f c :: (cs.map f).eraseIdx k = f c :: (cs.eraseIdx k).map f
    rw [map_erase f cs k]
theorem pick_perm {cs es as : List Nat} {k : Nat} (hk : k < cs.length) (h : (cs ++ es).Perm as) : (cs.eraseIdx k ++ (es ++ [cs[k]])).Perm as := by
  refine List.Perm.trans ?_ h
  rw [← List.append_assoc]
  refine List.perm_append_comm.trans ?_
  rw [← List.append_assoc]
  exact List.Perm.append_right _ (perm_erase hk)
theorem sum_sg : ∀ cs : List Nat, ((cs.map sg).map (·.length)).sum = cs.length
  | [] => rfl
  | c :: cs => by
    rw [List.map_cons, List.map_cons, List.sum_cons, sum_sg cs, List.length_cons]
    show 1 + _ = _
    omega
theorem seq_nat {j : Int} {n : Nat} (h0 : 0 ≤ j) (h1 : j < n) : seqIndex? j n = some j.toNat := by
  have h2 : ¬ j < 0 := by omega
  unfold seqIndex?
  dsimp only
  rw [if_neg h2, if_pos (by rw [Bool.and_eq_true, decide_eq_true_eq, decide_eq_true_eq]; exact ⟨h0, h1⟩)]
def txt (cs : List Nat) : Str := ⟨cs.toArray⟩
theorem txt_cps (cs : List Nat) : (txt cs).cps.toList = cs := List.toList_toArray ..
theorem txt_len (cs : List Nat) : (txt cs).length = cs.length := by
  show cs.toArray.size = _
  rw [List.size_toArray]
theorem map_at {α : Type} {f : α → D} {l : List α} {i : Nat} {d : D} (h : (l.map f)[i]? = some d) : ∃ x, l[i]? = some x ∧ d = f x := by
  rw [List.getElem?_map] at h
  cases e : l[i]? with
  | none => rw [e] at h; exact nomatch h
  | some x => rw [e] at h; cases h; exact ⟨x, rfl, rfl⟩
theorem sg_inj {a b : Nat} (h : sg a = sg b) : a = b := by
  have : (sg a).cps.toList = (sg b).cps.toList := by rw [h]
  simpa [sg] using this
theorem mem_snc {α : Type} {l : List α} {d : α} {P : α → Prop} (h : ∀ e ∈ l, P e) (hd : P d) : ∀ e ∈ l ++ [d], P e := fun e he => by
  rcases List.mem_append.mp he with he | he
  · exact h e he
  · rw [List.mem_singleton] at he; subst he; exact hd
theorem take_snc {α : Type} {l : List α} {i : Nat} {d : α} (h : l[i]? = some d) : l.take (i + 1) = l.take i ++ [d] := by rw [List.take_succ, h]; rfl
theorem nice_numQ (n : Nat) (q : Rat) : Nice (n + 1) (numQ q) := nice_tup fun e he => by
  simp only [List.mem_cons, List.not_mem_nil, or_false] at he
  rcases he with rfl | rfl <;> exact nice_int _ _
theorem lay_sg1 {c : Nat} (h : c < 1114112) : (PyData.str (sg c)).canLay0 = true := by
  show Array.all #[c] (fun x => decide (x < 1114112)) = true
  simp [h]
theorem pick_anyB {α : Type} {ds : List α} {x : Int} (h0 : 0 ≤ x) (h1 : x < ds.length) : ∃ d, d ∈ ds ∧ atI ds x = some d := by
  have hk : x.toNat < ds.length := by omega
  refine ⟨ds[x.toNat], List.getElem_mem hk, ?_⟩
  unfold atI ixN
  rw [if_pos h0, if_pos h1]
  exact List.getElem?_eq_getElem hk
theorem str_txt (z : Str) : z = txt z.cps.toList := by
  obtain ⟨⟨l⟩⟩ := z
  rfl
theorem in_letters {k : Nat} (h1 : 97 ≤ k) (h2 : k ≤ 122) : k ∈ letters := by
  have hh : ∀ j : Fin 26, (97 + j.val) ∈ letters := by decide +kernel
  have := hh ⟨k - 97, by omega⟩
  rwa [show 97 + (k - 97) = k by omega] at this
theorem sum_len1 : ∀ ws : List Nat, ((ws.map sg).map (·.length)).sum = ws.length
  | [] => rfl
  | c :: ws => by
    have ih := sum_len1 ws
    show (sg c).length + ((ws.map sg).map (·.length)).sum = ws.length + 1
    rw [ih]
    show 1 + ws.length = _
    omega
theorem join_txt (ws : List Nat) : Txt.join (Str.ofString "") (ws.map sg) = txt ws := join_sg' ws
theorem add_txt (a b : List Nat) : txt a ++ txt b = txt (a ++ b) := by
  show (⟨a.toArray ++ b.toArray⟩ : Str) = ⟨(a ++ b).toArray⟩
  rw [List.append_toArray]
def isNum (a b : Int) : Bool := decide (1 ≤ b) && decide (((Nat.gcd a.natAbs b.natAbs : Nat) : Int) = 1)
def P_isnum : PD := fun μ ds post _ => ∃ a b : Int, ds = [numD a b] ∧ post μ (.bl (isNum a b))
theorem isNum_pos {a b : Int} (h : isNum a b = true) : 0 < b := by
  unfold isNum at h
  rw [Bool.and_eq_true, decide_eq_true_eq] at h
  omega
theorem isNum_q (q : Rat) : isNum q.num q.den = true := by
  unfold isNum
  have h1 := q.den_pos
  have h2 : Nat.gcd q.num.natAbs q.den = 1 := q.reduced
  rw [decide_eq_true (by omega), Int.natAbs_natCast, h2]
  rfl
/-- the signs of a machine -/
def okSigns (cs : List Nat) : Prop := cs.Pairwise (· < ·) ∧ (∀ c ∈ cs, c ∈ letters) ∧ cs ≠ []
def P_csigns (A : Addr) : PD := fun μ ds post exc => ∃ z : Str, ds = [.str z] ∧ (okSigns z.cps.toList → post μ .non) ∧ (¬ okSigns z.cps.toList → exc μ A (.str z))
def lastS (cs : List Nat) : Str := match cs.getLast? with | none => ⟨#[]⟩ | some c => sg c
theorem lastS_snoc (cs : List Nat) (c : Nat) : lastS (cs ++ [c]) = sg c := by unfold lastS; rw [List.getLast?_concat]
theorem le_last (cs : List Nat) (c : Nat) (h : cs.Pairwise (· < ·)) : (!decide ((lastS cs).cps.toList < (sg c).cps.toList)) = true ↔ ¬ (cs ++ [c]).Pairwise (· < ·) := by
  have e : ∀ a b : Nat, ((sg a).cps.toList < (sg b).cps.toList) ↔ a < b := fun a b => by
    have h1 : decide ((sg a).cps.toList < (sg b).cps.toList) = decide (a < b) := by
      rw [← PyProof.Rows.ltCps_eq]
      simp [ltCps, sg]
    exact decide_eq_decide.mp h1
  rw [Bool.not_eq_true', decide_eq_false_iff_not]
  refine not_congr ?_
  rcases List.eq_nil_or_concat cs with rfl | ⟨ds, d, rfl⟩
  · refine ⟨fun _ => List.pairwise_singleton _ _, fun _ => ?_⟩
    exact List.nil_lt_cons c []
  · rw [List.concat_eq_append] at h ⊢
    rw [lastS_snoc, e]
    refine ⟨fun hl => ?_, fun hp => ?_⟩
    · rw [List.pairwise_append]
      refine ⟨h, List.pairwise_singleton _ _, fun x hx y hy => ?_⟩
      rw [List.mem_singleton] at hy
      subst hy
      rcases List.mem_append.mp hx with hx | hx
      · have := (List.pairwise_append.mp h).2.2 x hx d (List.mem_singleton.mpr rfl)
        omega
      · rw [List.mem_singleton] at hx; omega
    · exact (List.pairwise_append.mp hp).2.2 d (List.mem_append_right _ (List.mem_singleton.mpr rfl)) c (List.mem_singleton.mpr rfl)
section
open PySem.HandSPX PySem.W Builtin Builtin.ObjectAttr
variable {prog : Program} {w : World} {A : Around} {E : Value → Shared → Prop} {R : Result → Shared → Prop} {h : Heap} {g : Array GenState} {d : Drawn} {t : Nat} {os : OsState}
variable {nm q : Str} {C N : Addr} {bs bm bmB : List Value} {hdct : Bool} {sn : List Str} {sub : List Value} {ab : Bool} {col : Option Bool} {dd : Option Addr} {k0 k1 k2 k3 k5 : Option Value} {B newId initId : String}
theorem check_new_kw {M : Model} (F : ExcBaseFacts B newId initId bmB) (hT : ∀ X : String, bm.contains (.type X) = bmB.contains (.type X)) {kw : List (Str × Value)} {Q : Unit → Shared → Prop}
    (hC : h.get? C = some (excClassObj nm q C N bs bm hdct sn sub ab col dd k0 k1 k2 k3 k5 newId)) (hq : Q () ⟨h, g, d, t, os⟩) : wpAny M A (checkBuiltinCall newId ⟨.ref C :: [], kw⟩) Q E ⟨h, g, d, t, os⟩ := by
  have hcont : (Value.ref C :: bm).contains (.type B) = true := by rw [List.contains_cons, hT, F.hasB, Bool.or_true]
  have hstar := F.noStar
  simp only [checkBuiltinCall, F.newKind, F.newSplit, F.newRow]
  repeat (first | refine wpAny_loadPart_at hC ?_ | (refine wpAny_isSubtype_exc hC ?_; rw [hcont]) | refine wpAny_staticBase_exc hC ?_ | refine wpAny_madeBy_exc hC ?_ | simp only [bne_self_eq_false, Bool.false_eq_true, if_false] | wp_step)
  exact hq
theorem new_kw (F : ExcBaseFacts B newId initId bmB) (hT : ∀ X : String, bm.contains (.type X) = bmB.contains (.type X)) {u : Value}
    (hC : h.get? C = some (excClassObj nm q C N bs bm hdct sn sub ab col dd k0 k1 k2 k3 k5 newId))
    (hq : R (.ok (.ret (.ref (h.objs.size + 1)))) ⟨(h.push { cls := .type "tuple", data := .seq ([] : List Value).toArray }).push
      { cls := .ref C, data := .fields #[.ref h.objs.size, .none, .none, .none, .bool false, .none] }, g, d, t, os⟩) :
    codeAny (model prog w) A (.builtin newId ⟨.ref C :: [], [("value", u)]⟩) R ⟨h, g, d, t, os⟩ := by
  have hends := F.ends
  have hcB : (Value.ref C :: bm).contains (.type B) = true := by rw [List.contains_cons, hT, F.hasB, Bool.or_true]
  have hcA : (Value.ref C :: bm).contains (.type "AttributeError") = false := by rw [List.contains_cons, hT, F.noAttr]; rfl
  have hcN : (Value.ref C :: bm).contains (.type "NameError") = false := by rw [List.contains_cons, hT, F.noName]; rfl
  refine codeAny_builtinAt F.entry ?_
  unfold Builtin.«BaseException.__new__»
  refine PySem.wpAt_bind ?_
  show PySem.wpAt _ _ _ (stack >>= _) _ _ _
  refine PySem.wpAt_bind (PySem.wpAt_stack fun p below => PySem.wpAt_of_wpAny ?_)
  wp_walk
  refine PySem.wpAt_of_wpAny ?_
  rw [F.owner]
  repeat (first | with_reducible refine wpAny_madeHere_exc F.canon hC ?_ | with_reducible refine wpAny_loadPart_at hC ?_ | (with_reducible refine wpAny_isSubtype_exc hC ?_; first | rw [hcB] | rw [hcA] | rw [hcN]) | wp_step)
  show R _ _
  rw [Heap.size_push]
  exact hq
theorem type_call_kw (F : ExcBaseFacts B newId initId bmB) (hT : ∀ X : String, bm.contains (.type X) = bmB.contains (.type X)) {u : Value} {fI : Addr} {Q : Fin → Shared → Prop}
    (hC : h.get? C = some (excClassObj nm q C N bs bm hdct sn sub ab col dd k0 k1 k2 k3 k5 newId))
    (hi : W.Looks (model prog w) h (typeLookup (.ref C) "__init__") (some (.ref fI))) (hb : ∀ self, W.Looks (model prog w) h (bindSpecial (.ref fI) self) (.ref fI, [self]))
    (hq : codeAny (model prog w) A (.call (.ref fI) ⟨[.ref (h.objs.size + 1)], [("value", u)]⟩)
      (fun r s' => match r with | .ok (.ret v) => v = .none ∧ Q (.done (.ret (.ref (h.objs.size + 1)))) s' | .ok _ => False | .error e => E e s')
      ⟨(h.push (W.kdv_tup [])).push (excO C h.objs.size), g, d, t, os⟩) :
    wpAny (model prog w) A (Builtin.«type.__call__» ⟨[.ref C], [("value", u)]⟩) Q E ⟨h, g, d, t, os⟩ := by
  repeat (first | with_reducible refine wpAny_loadPart_at hC ?_ | with_reducible refine wpAny_madeBy_exc hC ?_ | wp_step)
  refine codeAny_call_builtin_code (Code.quiet_builtin _ F.quiet) (check_new_kw F hT hC ?_)
  refine new_kw F hT hC ?_
  show wpAny _ _ _ _ _ _
  have k : ∀ b o, h.get? b = some o → ((h.push (W.kdv_tup [])).push (excO C h.objs.size)).get? b = some o := fun b o e => Heap.get?_push_of_some _ (Heap.get?_push_of_some _ e)
  have hC₁ := k _ _ hC
  have hget : ((h.push (W.kdv_tup [])).push (excO C h.objs.size)).get? (h.objs.size + 1) = some (excO C h.objs.size) := by heap_get
  have hcC : (Value.ref C :: bm).contains (.ref C) = true := by simp
  have i1 := hi.keeps k
  have b1 := (hb (.ref (h.objs.size + 1))).keeps k
  unfold isInstance
  repeat (first | with_reducible refine wpAny_loadPart_at hget ?_ | (with_reducible refine wpAny_isSubtype_exc hC₁ ?_; rw [hcC]) | wp_step)
  show wpAny _ _ (typeLookup (.ref C) _) _ _ _
  refine i1.at ?_
  refine wpAny_holding (wpAny_bind (b1.at ?_))
  refine wpAny_bind (wpAny_call (codeAny_mono hq fun r s' z => ?_))
  rcases r with e | (v | _ | _ | _) <;> first | exact z | exact z.elim | skip
  obtain ⟨rfl, z⟩ := z
  first
    | exact wpAny_pure (wpAny_pure z)
    | (wp_walk; exact z)
theorem call_kw (F : ExcBaseFacts B newId initId bmB) (hT : ∀ X : String, bm.contains (.type X) = bmB.contains (.type X)) {u : Value} {fI : Addr}
    (hC : h.get? C = some (excClassObj nm q C N bs bm hdct sn sub ab col dd k0 k1 k2 k3 k5 newId))
    (hi : W.Looks (model prog w) h (typeLookup (.ref C) "__init__") (some (.ref fI))) (hb : ∀ self, W.Looks (model prog w) h (bindSpecial (.ref fI) self) (.ref fI, [self]))
    (hq : codeAny (model prog w) (A.under (.builtin "type.__call__" ⟨[.ref C], [("value", u)]⟩)) (.call (.ref fI) ⟨[.ref (h.objs.size + 1)], [("value", u)]⟩) (W.InitBack (h.objs.size + 1) R)
      ⟨(h.push (W.kdv_tup [])).push (excO C h.objs.size), g, d, t, os⟩) :
    codeAny (model prog w) A (.call (.ref C) ⟨[], [("value", u)]⟩) R ⟨h, g, d, t, os⟩ := by
  have f1 := tc_lookup
  have f2 := tc_bind (.ref C)
  have hTy : (⟨h, g, d, t, os⟩ : Shared).TypeIs (.ref C) "type" := ⟨_, hC, rfl⟩
  refine codeAny_of_tree ?_
  show wpAny _ _ (callAny (.ref C) _) _ _ _
  repeat (any_goals (first | assumption | with_reducible refine wpAny_loadPart_at hC ?_ | wp_step))
  refine ⟨rfl, ?_⟩
  refine codeAny_call_builtin_at (Code.quiet_builtin _ (by decide +kernel)) entry_typeCall (wpAny_check_type_call_sub hC (type_call_kw F hT hC hi hb ?_))
  refine codeAny_mono hq fun r s' z => ?_
  rcases r with e | (v | _ | _ | _) <;> exact z
end
/-! ### own errors as values -/
section
variable {X : Cx} {e : Expr} {es : List Expr} {p pos : Pos} {tk ta : TA} {kws : List Keyword}
def tMkOK (C : Addr) (sp : Sp) (tk : TA) : L2.St → Hp → XK → Prop := fun σ H Q => tk σ H fun zs H1 => zs.length = 1 ∧ ∀ a, H1 a = none → sp (permG 1 1 [0, 1] [.ref a] zs) (upd H1 a (exo a C none))
  (fun v H2 => v = .non ∧ ∃ (d : Addr) (fs : List (Str × V)), H2 a = some (exo a C (some d)) ∧ H2 d = some (exd d fs) ∧ H1 d = none ∧ Q (.ref C) (some d) (upd (del H2 a) d (.xd fs))) (fun _ _ _ => False)
theorem pmk_kw {CX : CXT} {x : Str} {C fI : Addr} {k : Nat} {fd : FuncData} {ps : List Str} {sp : Sp} (T : OexC X.K C) (iC : PySem.W.findIn X.K (.ref C) "__init__" = some (some (.ref fI))) (tI : PySem.W.typeIn X.K (.ref fI) = some (.type "function"))
    (F1 : FnOk X.prog X.w X.K X.mg X.base CX k fI fd ps sp) (hr : Room (k + 1) X.A) (hb : KBn X.K fd ps 1 [("value" : Str)] (permG 1 1 [0, 1]) (permG 1 1 [0, 1])) (hx : Passes CX X (fun _ _ _ => False)) (hg : Gl X x) (hm : X.mg x = some (.ref C)) (hkw : PK X kws tk)
    (hdb : (x == ("__debug__" : Str)) = false := by decide) (hall : (backToKw pos (keywordEach kws X.env)).all (·.1.isSome) = true := by rfl) (hks : (backToKw pos (keywordEach kws X.env)).filterMap (·.1) = [("value" : Str)] := by rfl)
    (hn : ((backTo pos (starEach [] X.env)).any (·.1) || (backToKw pos (keywordEach kws X.env)).any (·.1.isNone)) = false := by rfl) :
    PMk X (.Call (.Name x p) [] kws pos) (tMkOK C sp tk) := by
  intro pins s σ H Q I h
  obtain ⟨nm, q, N, bs, bm, sn, sub, ab, col, dd, k0, k1, k2, k3, k5, hC, hbm⟩ := T.cls
  refine wpAny_Call_Name_kw (ld_glob I hg hm ?_ hdb)
  refine PySem.W.callWith_KW0 (h₀ := X.base) I.ok.mod.kin T.kC hall ?_ hn
  refine thn (hkw.run pos pins s σ H _ I h) fun ws s1 ⟨vs, H1, I1, r1, hq1, q1⟩ => ⟨I1.kIn, ?_⟩
  rw [hks]
  obtain ⟨hp, g, dr, tk, os⟩ := s1
  have hlw : ws.length = 1 := by rw [← r1.length]; exact hq1
  obtain ⟨u, rfl⟩ : ∃ u, ws = [u] := by
    match ws, hlw with
    | [u], _ => exact ⟨u, rfl⟩
  show wpAny _ _ (call (.ref C) [] [("value", u)]) _ _ _
  have hsz : hp.objs.size ≤ hp.objs.size + 1 := Nat.le_succ _
  have hn : H1 (hp.objs.size + 1) = none := I1.hok.fresh hsz
  have hq := q1 (hp.objs.size + 1) hn
  have kk : ∀ b o, hp.get? b = some o → ((hp.push (PySem.W.kdv_tup [])).push (PySem.HandSPX.excO C hp.objs.size)).get? b = some o := fun b o e => Heap.get?_push_of_some _ (Heap.get?_push_of_some _ e)
  have hget : ((hp.push (PySem.W.kdv_tup [])).push (PySem.HandSPX.excO C hp.objs.size)).get? (hp.objs.size + 1) = some (PySem.HandSPX.excO C hp.objs.size) := by heap_get
  have I2 : L2.Inv X pins σ (upd H1 (hp.objs.size + 1) (exo (hp.objs.size + 1) C none)) ⟨(hp.push (PySem.W.kdv_tup [])).push (PySem.HandSPX.excO C hp.objs.size), g, dr, tk, os⟩ :=
    I1.laid (t' := tk) (a := hp.objs.size + 1) (o := exo (hp.objs.size + 1) C none) (h' := (hp.push (PySem.W.kdv_tup [])).push (PySem.HandSPX.excO C hp.objs.size)) kk hsz (exo_ok hget)
  have r0 : Vals [V.ref (hp.objs.size + 1)] [Value.ref (hp.objs.size + 1)] := .cons rfl .nil
  have r2 := hb.rel r0 r1
  refine wpAny_call (call_kw F.excBase_ValueError (fun Y => PySem.HandSPX.refsVE_contains Y bm hbm) (I1.kIn _ _ hC) (PySem.W.looks_findIn I1.kIn iC) (fun self => PySem.W.bind_fn I1.kIn self tI)
    (codeAny_mono (F1.run _ X.stack _ _ ⟨[Value.ref (hp.objs.size + 1)], [("value", u)]⟩ (permG 1 1 [0, 1] [Value.ref (hp.objs.size + 1)] [u]) _ _ (fun _ _ _ => False) (hr.make C [] [("value", u)]) (I2.env0.make C [] [("value", u)]) (hb.to _ [Value.ref (hp.objs.size + 1)] [u] I2.kIn rfl rfl) r2 hq) fun r s' hq' => ?_))
  cases r with
  | error er => exact hx pins σ _ _ er s' I2 hq'
  | ok fl =>
    cases fl with
    | ret u =>
      obtain ⟨v, H2, os2, bare2, un2, hok2, rv, ev, d, fs, ea, ed, hd1, q2⟩ := hq'
      subst ev
      obtain ⟨h2, g2, d2, t2, os'⟩ := s'
      exact ⟨rv, mk_end (raises_own T.exC T.tyC) I1 hsz kk un2 hok2 os2 bare2 ea ed hd1 q2⟩
    | next => exact False.elim hq'
    | brk => exact False.elim hq'
    | cont => exact False.elim hq'
/-- an error made, kept as a value -/
def tMkE (t : L2.St → Hp → XK → Prop) : TE := fun σ H Q => t σ H fun cls d H' => ∃ C dx, cls = .ref C ∧ d = some dx ∧ ∀ a, H' a = none → Q (.ref a) (upd H' a (ExT a C dx))
theorem pe_mkE {t : L2.St → Hp → XK → Prop} (hm : PMk X e t) (hex : X.ex = []) : PE X e (tMkE t) := by
  refine ⟨fun pins s σ H Q I h => ?_⟩
  refine wpAny_mono (hm pins s σ H _ I h) (fun u s1 hu => ?_) (fun _ _ z => z)
  obtain ⟨a, oe, vs, sI, H', cls, d, rfl, J, k, hne, ha, hz, hd, h1, na, os, ag, r, C, dx, rfl, rfl, hq⟩ := hu
  have J1 : L2.Inv X pins σ H' s1 := by
    obtain ⟨hp, g, dr, tk, os1⟩ := s1
    have h3 := J.call (g' := g) (t' := tk) (d' := dr) (ch := []) (Un.kept k) (J.hok.kept k) ag (fun _ z => nomatch z)
    have os2 : os1 = sI.os := os
    subst os2
    exact h3
  have y0 : X.s_0.heap.get? a = none := by
    cases e : X.s_0.heap.get? a with
    | none => rfl
    | some o =>
      obtain ⟨o', q⟩ := J.base.there a o e (by rw [hex]; exact List.not_mem_nil)
      rw [hne] at q
      cases q
  have nL : a ≠ X.env.locals := fun z => by
    obtain ⟨m, ⟨o, es, ep, q, _⟩, _⟩ := J.loc
    rw [← z, hne] at q; cases q
  have yc : ∀ x c, X.env.cells.lookup x = some c → c ≠ a := fun y cc e z => by
    obtain ⟨v, o, q, _⟩ := J.cell y cc e
    rw [z, hne] at q
    cases q
  have yp : ∀ p ∈ X.pn ++ pins, p.1 ≠ a := fun p hp z => by
    have q := (J.pin p hp).1
    rw [z, hne] at q
    cases q
  have T := inv_track J1 na y0 nL yc yp (o := ExT a C dx) ⟨⟨oe, vs, ha, hz.1, hz.2, hd⟩, ⟨oe, ha⟩, fun h1 h2 ⟨o, v, e, r⟩ k => ⟨o, v, k o e, r⟩⟩
  exact ⟨.ref a, _, T, rfl, hq a na⟩
end
/-- the __init__ by keyword -/
structure IniK (P : Program) (w : World) (K : PySem.W.Frag) (mg : Str → Option Value) (base : Heap) (fI : Addr) : Prop where
  ex : ∃ fd : FuncData, PySem.W.typeIn K (.ref fI) = some (.type "function") ∧ FnOk P w K mg base CX0 1 fI fd ["self", "value"] (spInit K "value") ∧ KBn K fd ["self", "value"] 1 [("value" : Str)] (permG 1 1 [0, 1]) (permG 1 1 [0, 1])
section
variable {X : Cx} {x : Str} {C fI : Addr} {j : Nat} {e : Expr} {es : List Expr} {ta tk : TA} {p pos : Pos} {kws : List Keyword}
/-- C(e), an own error -/
theorem pe_mkX (hC : ExcD X.K X.mg x C fI) (hI : IniD X.prog X.w X.K X.mg X.base fI) (hr : Room j X.A) (hj : 2 ≤ j) (ha : PA X (e :: es) ta)
    (hex : X.ex = [] := by rfl) (hg : Gl X x := by rfl) (hdb : (x == ("__debug__" : Str)) = false := by decide)
    (he : starEach (e :: es) X.env = (false, eval e X.env) :: starEach es X.env := by rfl) (hpl : (backTo pos (starEach es X.env)).any (·.1) = false := by rfl) : PE X (.Call (.Name x p) (e :: es) [] pos) (tMkE (tMkO C (spInit X.K "value") [] ta)) := by
  obtain ⟨fd, h1, h2, h3⟩ := hI.ex
  exact pe_mkE (pmk_oex hC.k.ox hC.i h1 h2 (hr.mono hj) h3 .nil pass0 hg hC.m ha hdb he hpl) hex
/-- C(value = e) -/
theorem pe_mkXK (hC : ExcD X.K X.mg x C fI) (hI : IniK X.prog X.w X.K X.mg X.base fI) (hr : Room j X.A) (hj : 2 ≤ j) (hkw : PK X kws tk)
    (hex : X.ex = [] := by rfl) (hg : Gl X x := by rfl) (hdb : (x == ("__debug__" : Str)) = false := by decide) (hall : (backToKw pos (keywordEach kws X.env)).all (·.1.isSome) = true := by rfl) (hks : (backToKw pos (keywordEach kws X.env)).filterMap (·.1) = [("value" : Str)] := by rfl)
    (hn : ((backTo pos (starEach [] X.env)).any (·.1) || (backToKw pos (keywordEach kws X.env)).any (·.1.isNone)) = false := by rfl) : PE X (.Call (.Name x p) [] kws pos) (tMkE (tMkOK C (spInit X.K "value") tk)) := by
  obtain ⟨fd, h1, h2, h3⟩ := hI.ex
  exact pe_mkE (pmk_kw hC.k.ox hC.i h1 h2 (hr.mono hj) h3 pass0 hg hC.m hkw hdb hall hks hn) hex
end
section
variable {K : PySem.W.Frag} {W : WX} {X : XD} {μ : Mu} {ρ : Ro} {Φ : DP} {C : Addr} {tr : TA}
theorem den_exc {H1 : Hp} {w : V} {d : D} {a p dx : Addr} {μ1 : Mu} (m1 : Mem K μ1 H1) (dd : Den K μ1 H1 d w) (hp : H1 p = none) (hdx' : H1 dx = none) (hne : dx ≠ p)
    (ha : (upd (L2.del (upd (upd (upd H1 p (exo p C none)) dx (exd dx [(("value" : Str), w)])) p (exo p C (some dx))) p) dx (.xd [(("value" : Str), w)])) a = none) :
    ∃ H2, (upd (upd (L2.del (upd (upd (upd H1 p (exo p C none)) dx (exd dx [(("value" : Str), w)])) p (exo p C (some dx))) p) dx (.xd [(("value" : Str), w)])) a (ExT a C dx)) = H2 ∧ Grow μ1 H1 μ1 H2 ∧ Mem K μ1 H2 ∧ Den K μ1 H2 (.exc C d) (.ref a) := by
  have eq : upd (L2.del (upd (upd (upd H1 p (exo p C none)) dx (exd dx [(("value" : Str), w)])) p (exo p C (some dx))) p) dx (.xd [(("value" : Str), w)]) = upd H1 dx (.xd [(("value" : Str), w)]) := by
    funext b
    by_cases h1 : b = dx
    · rw [h1, upd_same, upd_same]
    · rw [upd_ne h1, upd_ne h1]
      by_cases h2 : b = p
      · rw [h2, del_same, hp]
      · rw [del_ne h2, upd_ne h2, upd_ne h1, upd_ne h2]
  rw [eq] at ha ⊢
  have g1 : Grow μ1 H1 μ1 (upd H1 dx (.xd [(("value" : Str), w)])) := Grow.new hdx'
  have g2 : Grow μ1 (upd H1 dx (.xd [(("value" : Str), w)])) μ1 (upd (upd H1 dx (.xd [(("value" : Str), w)])) a (ExT a C dx)) := Grow.new ha
  have m2 := m1.new (o := .xd [(("value" : Str), w)]) hdx'
  have hda : dx ≠ a := ne_of_none upd_same ha
  refine ⟨_, rfl, g1.trans g2, m2.new ha, ?_⟩
  unfold Den
  exact ⟨a, dx, w, rfl, ⟨m2.free ha, upd_same⟩, ⟨m1.free hdx', by rw [upd_ne hda]; exact upd_same⟩, Den.grow (g1.trans g2) _ _ dd⟩
theorem evx_mkX (hC : OexC K C) (hv : PySem.W.findIn K (.ref C) "value" = some none) (h : EvL K W X μ ρ tr fun μ1 ds => ∃ d, ds = [d] ∧ Φ μ1 (.exc C d)) : EvX K W X μ ρ (tMkE (tMkO C (spInit K "value") [] tr)) Φ := fun σ H Q m e l k => by
  refine h σ H _ m e l fun μ1 ds vs H1 ⟨d, hd, hx⟩ g1 m1 d1 => ?_
  subst hd
  obtain ⟨w, e1, a⟩ := denL1 d1
  subst e1
  refine ⟨Nat.le_of_ble_eq_true rfl, fun p hp => ⟨p, C, w, rfl, hC, hv, upd_same, fun dx hdx hne => ⟨rfl, dx, [(("value" : Str), w)], upd_same, ?_, ?_, C, dx, rfl, rfl, fun q hq => ?_⟩⟩⟩
  · rw [upd_ne hne, upd_same]
  · rw [upd_ne hne] at hdx; exact hdx
  · have hdx' : H1 dx = none := by rw [upd_ne hne] at hdx; exact hdx
    obtain ⟨H2, e2, g2, m2, d2⟩ := den_exc m1 a hp hdx' hne hq
    rw [e2]
    exact k μ1 _ _ _ hx (g1.trans g2) m2 d2
theorem evx_mkXK (hC : OexC K C) (hv : PySem.W.findIn K (.ref C) "value" = some none) (h : EvL K W X μ ρ tr fun μ1 ds => ∃ d, ds = [d] ∧ Φ μ1 (.exc C d)) : EvX K W X μ ρ (tMkE (tMkOK C (spInit K "value") tr)) Φ := fun σ H Q m e l k => by
  refine h σ H _ m e l fun μ1 ds vs H1 ⟨d, hd, hx⟩ g1 m1 d1 => ?_
  subst hd
  obtain ⟨w, e1, a⟩ := denL1 d1
  subst e1
  refine ⟨rfl, fun p hp => ⟨p, C, w, rfl, hC, hv, upd_same, fun dx hdx hne => ⟨rfl, dx, [(("value" : Str), w)], upd_same, ?_, ?_, C, dx, rfl, rfl, fun q hq => ?_⟩⟩⟩
  · rw [upd_ne hne, upd_same]
  · rw [upd_ne hne] at hdx; exact hdx
  · have hdx' : H1 dx = none := by rw [upd_ne hne] at hdx; exact hdx
    obtain ⟨H2, e2, g2, m2, d2⟩ := den_exc m1 a hp hdx' hne hq
    rw [e2]
    exact k μ1 _ _ _ hx (g1.trans g2) m2 d2
end
/-! ### list(d.keys()), list(d.values()) -/
def VwK (v d : Addr) : HO := .ext fun h => PySem.W.KdlKeysView h v d
def VwV (v d : Addr) : HO := .ext fun h => h.IsValuesView v d
def tVw (vw : Addr → Addr → HO) (td : TE) : TE := fun σ H Q => td σ H fun x H1 => ∃ d kvs, x = .ref d ∧ H1 d = some (.dK kvs) ∧ ∀ v, H1 v = none → Q (.ref v) (upd H1 v (vw v d))
section
variable {X : Cx} {e : Expr} {td : TE} {apos cpos : Pos}
theorem pe_vkeys (he : PE X e td) (hbase : attributeBase e "keys" X.env (eval e X.env) = eval e X.env := by rfl) (hline : (apos.endLine == cpos.line) = true := by rfl) : PE X (.Call (.Attribute e "keys" apos) [] [] cpos) (tVw VwK td) := by
  refine ⟨fun pins s σ H Q I h => ?_⟩
  refine wpAny_Call_method (T := "dict") (id := "dict.keys") hbase rfl hline F.plainAttrs_dict F.slot_dict_keys F.type_dict_keys (thn (he.run pins s σ H _ I h) fun u s1 ⟨x, H1, I1, rx, d, kvs, ex, hd, q⟩ => ?_)
  subst ex
  obtain rfl : u = Value.ref d := rx
  obtain ⟨z, lo, vs, rk, hdd⟩ := (show ObjOk X.prog X.w H1 s1.heap d (.dK kvs) from I1.hok d _ hd)
  refine ⟨hdd.typeIs, hdd.mapOf.noDict, ?_⟩
  show wpAny _ _ (callWith cpos (.builtin "dict.keys") [.ref d] [] []) _ X.xe s1
  refine method_meetsIn F.slot_dict_keys F.entry_dict_keys rfl (PySem.evalArgs_none ⟨rfl, hdd.typeIs, F.args_dict_keys_1 _, _, PySem.W.kdl_meets_keys (mixKind X.prog X.w) d lo, ⟨vs, hdd⟩, ?_⟩)
  refine ⟨.ref s1.heap.objs.size, _, I1.laid (t' := s1.toks) (o := VwK s1.heap.objs.size d) (fun b ob q => Heap.get?_push_of_some _ q) (Nat.le_refl _) ?_, rfl, q _ (I1.hok.fresh (Nat.le_refl _))⟩
  exact ⟨⟨_, Heap.get?_push_size _ rfl, rfl, rfl⟩, ⟨_, Heap.get?_push_size _ rfl⟩, fun h1 h2 ⟨o, a, b⟩ k => ⟨o, k o a, b⟩⟩
theorem pe_vvals (he : PE X e td) (hbase : attributeBase e "values" X.env (eval e X.env) = eval e X.env := by rfl) (hline : (apos.endLine == cpos.line) = true := by rfl) : PE X (.Call (.Attribute e "values" apos) [] [] cpos) (tVw VwV td) := by
  refine ⟨fun pins s σ H Q I h => ?_⟩
  refine wpAny_Call_method (T := "dict") (id := "dict.values") hbase rfl hline F.plainAttrs_dict F.slot_dict_values F.type_dict_values (thn (he.run pins s σ H _ I h) fun u s1 ⟨x, H1, I1, rx, d, kvs, ex, hd, q⟩ => ?_)
  subst ex
  obtain rfl : u = Value.ref d := rx
  obtain ⟨z, lo, vs, rk, hdd⟩ := (show ObjOk X.prog X.w H1 s1.heap d (.dK kvs) from I1.hok d _ hd)
  refine ⟨hdd.typeIs, hdd.mapOf.noDict, ?_⟩
  show wpAny _ _ (callWith cpos (.builtin "dict.values") [.ref d] [] []) _ X.xe s1
  refine method_meetsIn F.slot_dict_values F.entry_dict_values rfl (PySem.evalArgs_none ⟨rfl, hdd.typeIs, F.args_dict_values_1 _, _, meets_dict_values (mixKind X.prog X.w) d lo, ⟨vs, hdd⟩, ?_⟩)
  refine ⟨.ref s1.heap.objs.size, _, I1.laid (t' := s1.toks) (o := VwV s1.heap.objs.size d) (fun b ob q => Heap.get?_push_of_some _ q) (Nat.le_refl _) ?_, rfl, q _ (I1.hok.fresh (Nat.le_refl _))⟩
  exact ⟨⟨_, Heap.get?_push_size _ rfl, rfl, rfl⟩, ⟨_, Heap.get?_push_size _ rfl⟩, fun h1 h2 ⟨o, a, b⟩ k => ⟨o, k o a, b⟩⟩
abbrev rListK : List V → Hp → VK → Prop := fun xs H Q => ∃ v d kvs, xs = [.ref v] ∧ H v = some (VwK v d) ∧ H d = some (.dK kvs) ∧ ∀ p, H p = none → Q (.ref p) (upd H p (.lst (kvs.map fun kv => kV kv.1)))
abbrev rListVs : List V → Hp → VK → Prop := fun xs H Q => ∃ v d kvs, xs = [.ref v] ∧ H v = some (VwV v d) ∧ H d = some (.dK kvs) ∧ ∀ p, H p = none → Q (.ref p) (upd H p (.lst (kvs.map fun kv => kv.2)))
theorem call_listK (hc : X.calm = true) : CallR X (.type "list") rListK := by
  intro pins s σ H xs us Q I r h
  obtain ⟨v, p, kvs, e, hv, hk, q⟩ := h
  subst e
  obtain ⟨u, eu, rx⟩ := vals1 r
  subst eu
  obtain rfl : u = Value.ref v := rx
  obtain ⟨z, lo, vs, rk, hd⟩ := (show ObjOk X.prog X.w H s.heap p (.dK kvs) from I.hok p _ hk)
  have hview : PySem.W.KdlKeysView s.heap v p := (show ObjOk X.prog X.w H s.heap v (VwK v p) from I.hok v _ hv).1
  obtain ⟨ep, hat⟩ := hd.dictAt
  have hl : kvs.length = vs.length := Paired.length rk
  refine PySem.W.kdl_call (PySem.W.kdl_keys (r := v) (knd := mixKind X.prog X.w) (kvs := vs) (ep := ep)) (I.ok.hd hc) ⟨hview, hat⟩ (by rw [← hl]; exact z) fun h' tk acc' c' hkeep hS hacc => ?_
  refine ⟨.ref s.heap.objs.size, upd H s.heap.objs.size (.lst (kvs.map fun kv => kV kv.1)), I.laid hkeep (Nat.le_refl _) (show ObjOk X.prog X.w _ _ _ (.lst (kvs.map fun kv => kV kv.1)) from ⟨?_, acc'.toList, c', ?_, ?_⟩), rfl, q _ (I.hok.fresh (Nat.le_refl _))⟩
  · rw [List.length_map]; exact z
  · have el : acc'.toList.length = acc'.size := by simp
    refine vals_of_at (by rw [List.length_map, el, hacc.1, hl]) fun j x w h1 h2 => ?_
    obtain ⟨k, y, hky, hi⟩ := hacc.2 j w (by rw [← Array.getElem?_toList]; exact h2)
    have e1 : (kvs.map (·.1))[j]? = some k := by
      rw [KV.keys rk, List.getElem?_map, hky] <;> rfl
    have e2 : (kvs.map fun kv => kV kv.1)[j]? = some (kV k) := by
      have e3 : (kvs.map fun kv => kV kv.1) = (kvs.map (·.1)).map kV := by rw [List.map_map] <;> rfl
      rw [e3, List.getElem?_map, e1] <;> rfl
    rw [e2] at h1
    cases h1
    exact keyIs_rel hi
  · rw [Array.toArray_toList]; exact hS
theorem kv_vals : ∀ {kvs : List (Key × V)} {vs : List (Key × Value)}, KV kvs vs → Vals (kvs.map (·.2)) (vs.map (·.2))
  | _, _, .nil => .nil
  | _, _, .cons h t => .cons h.2 (kv_vals t)
theorem call_listVs (hc : X.calm = true) : CallR X (.type "list") rListVs := by
  intro pins s σ H xs us Q I r h
  obtain ⟨v, p, kvs, e, hv, hk, q⟩ := h
  subst e
  obtain ⟨u, eu, rx⟩ := vals1 r
  subst eu
  obtain rfl : u = Value.ref v := rx
  obtain ⟨z, lo, vs, rk, hd⟩ := (show ObjOk X.prog X.w H s.heap p (.dK kvs) from I.hok p _ hk)
  have hview : s.heap.IsValuesView v p := (show ObjOk X.prog X.w H s.heap v (VwV v p) from I.hok v _ hv).1
  obtain ⟨ep, hat⟩ := hd.dictAt
  have hl : kvs.length = vs.length := Paired.length rk
  refine PySem.W.kdl_call (PySem.W.kdl_values (r := v) (knd := mixKind X.prog X.w) (kvs := vs) (ep := ep)) (I.ok.hd hc) ⟨hview, hat⟩ (by rw [← hl]; exact z) fun h' tk acc' c' hkeep hS hacc => ?_
  have ev := PySem.W.kdl_vals_eq (kvs := vs) acc'.toList (by rw [Array.length_toList]; exact hacc.1) fun j w h2 => hacc.2 j w (by rw [← Array.getElem?_toList]; exact h2)
  refine ⟨.ref s.heap.objs.size, upd H s.heap.objs.size (.lst (kvs.map fun kv => kv.2)), I.laid hkeep (Nat.le_refl _) (show ObjOk X.prog X.w _ _ _ (.lst (kvs.map fun kv => kv.2)) from ⟨by rw [List.length_map]; exact z, acc'.toList, c', by rw [ev]; exact kv_vals rk, by rw [Array.toArray_toList]; exact hS⟩), rfl, q _ (I.hok.fresh (Nat.le_refl _))⟩
end
section
variable {K : PySem.W.Frag} {W : WX} {X : XD} {μ : Mu} {H : Hp} {ρ : Ro} {Φ : DP} {td : TE}
theorem keys_den : ∀ {ks : List Key} {vs : List V}, ks.length = vs.length → DenL K μ H (ks.map keyD) ((ks.zip vs).map fun kv => kV kv.1)
  | [], vs, _ => by rw [List.zip_nil_left]; exact DenL.nil
  | k :: ks, [], h => nomatch h
  | k :: ks, v :: vs, h => by
    rw [List.zip_cons_cons, List.map_cons, List.map_cons]
    refine DenL.cons ?_ (keys_den (by simpa using h))
    cases k <;> (unfold keyD Den; rfl)
theorem zip_snd {α β : Type} : ∀ {ks : List α} {vs : List β}, ks.length = vs.length → (ks.zip vs).map (fun kv => kv.2) = vs
  | [], vs, h => (List.eq_nil_of_length_eq_zero h.symm) ▸ rfl
  | k :: ks, [], h => nomatch h
  | k :: ks, v :: vs, h => by rw [List.zip_cons_cons, List.map_cons, zip_snd (by simpa using h)]
theorem vw_ne {H1 : Hp} {d v : Addr} {o : HO} (hd : H1 d = some o) (hv : H1 v = none) : d ≠ v := ne_of_none hd hv
def tListK (td : TE) : TE := tCB rListK (tCons (tVw VwK td) tNil)
def tListV (td : TE) : TE := tCB rListVs (tCons (tVw VwV td) tNil)
theorem pe_listK {X : Cx} {e : Expr} {td : TE} (h : PE X e (tCB rListK (tCons (tVw VwK td) tNil))) : PE X e (tListK td) := h
theorem pe_listVs {X : Cx} {e : Expr} {td : TE} (h : PE X e (tCB rListVs (tCons (tVw VwV td) tNil))) : PE X e (tListV td) := h
theorem evx_listK (h : EvX K W X μ ρ td fun μ1 x => ∃ ks ds, DctD μ1 x ks ds ∧ Φ μ1 (.lst (ks.map keyD))) : EvX K W X μ ρ (tListK td) Φ := fun σ H Q m e l k =>
  h σ H _ m e l fun μ1 x v H1 ⟨ks, ds, hx, hq⟩ g1 m1 d1 => by
    obtain ⟨p, vs, e1, e2, n, b⟩ := hx.hp m1 d1
    refine ⟨p, _, e1, e2, fun w hw => ⟨w, p, _, rfl, upd_same, by rw [upd_ne (vw_ne e2 hw)]; exact e2, fun q hq' => ?_⟩⟩
    have g2 : Grow μ1 H1 μ1 (upd H1 w (VwK w p)) := Grow.new hw
    have m2 := m1.new (o := VwK w p) hw
    exact k μ1 _ _ _ hq ((g1.trans g2).trans (Grow.new hq')) (m2.new hq') (by unfold Den; exact ⟨q, _, rfl, ⟨m2.free hq', upd_same⟩, keys_den n⟩)
theorem evx_listVs (h : EvX K W X μ ρ td fun μ1 x => ∃ ks ds, DctD μ1 x ks ds ∧ Φ μ1 (.lst ds)) : EvX K W X μ ρ (tListV td) Φ := fun σ H Q m e l k =>
  h σ H _ m e l fun μ1 x v H1 ⟨ks, ds, hx, hq⟩ g1 m1 d1 => by
    obtain ⟨p, vs, e1, e2, n, b⟩ := hx.hp m1 d1
    refine ⟨p, _, e1, e2, fun w hw => ⟨w, p, _, rfl, upd_same, by rw [upd_ne (vw_ne e2 hw)]; exact e2, fun q hq' => ?_⟩⟩
    have g2 : Grow μ1 H1 μ1 (upd H1 w (VwV w p)) := Grow.new hw
    have m2 := m1.new (o := VwV w p) hw
    exact k μ1 _ _ _ hq ((g1.trans g2).trans (Grow.new hq')) (m2.new hq') (by
      unfold Den
      refine ⟨q, _, rfl, ⟨m2.free hq', upd_same⟩, ?_⟩
      rw [zip_snd n]
      exact DenL.grow (Grow.new hq') _ _ (DenL.grow g2 _ _ b))
/-- tuple(a list) -/
theorem cax_tupleL {x : D} {ds : List D} {S : Mu → Prop} (hd : IsL μ x ds S) (h : Φ μ (.tup ds)) :
    CaX K (fun xs H Q => ∃ p ys, xs = [.ref p] ∧ ((SqL K H p ys ∧ ∀ l, H l = none → Q (.ref l) (upd H l (.tup ys))) ∨ (SqT K H p ys ∧ Q (.ref p) H))) μ [x] Φ := fun H vs Q m d k => by
  obtain ⟨v, e, a⟩ := denL1 d
  obtain ⟨p, us, e1, sq, b⟩ := isL_sq m hd a
  subst e e1
  exact ⟨p, us, rfl, .inl ⟨sq, fun l hl => k _ _ _ _ h (Grow.new hl) (m.new hl) (by unfold Den; exact ⟨l, us, rfl, .inl ⟨m.free hl, .inl upd_same⟩, DenL.grow (Grow.new hl) _ _ b⟩)⟩⟩
end
/-! ### live data, dicts too, seen as they are now -/
mutual
def seeG (μ : Mu) : Nat → D → D
  | 0, d => d
  | n + 1, .at a => match μ a with
    | some (.lst ds) => .lst (seeGs μ n ds)
    | some (.dct ks ds) => .dct ks (seeGs μ n ds)
    | _ => .at a
  | n + 1, .tup ds => .tup (seeGs μ n ds)
  | n + 1, .lst ds => .lst (seeGs μ n ds)
  | n + 1, .dct ks ds => .dct ks (seeGs μ n ds)
  | _ + 1, d => d
def seeGs (μ : Mu) : Nat → List D → List D
  | _, [] => []
  | n, d :: ds => seeG μ n d :: seeGs μ n ds
end
theorem seeGs_map (μ : Mu) (n : Nat) : ∀ ds : List D, seeGs μ n ds = ds.map (seeG μ n)
  | [] => by unfold seeGs; rfl
  | d :: ds => by unfold seeGs; rw [seeGs_map μ n ds]; rfl
section
variable {K : PySem.W.Frag} {μ μ' : Mu} {H H' : Hp} {W : WX} {X : XD} {ρ : Ro} {Φ : DP} {x y : D} {te : TE} {tr tk : TA} {n : Nat} {P : PD}
theorem den_seeG (m : Mem K μ H) : ∀ (n : Nat), (∀ (d : D) (v : V), Den K μ H d v → Den K muN H (seeG μ n d) v) ∧ (∀ (ds : List D) (vs : List V), DenL K μ H ds vs → DenL K muN H (seeGs μ n ds) vs) := by
  intro n
  have step : ∀ n, (∀ (d : D) (v : V), Den K μ H d v → Den K muN H (seeG μ n d) v) → (∀ (ds : List D) (vs : List V), DenL K μ H ds vs → DenL K muN H (seeGs μ n ds) vs) := by
    intro n hd ds
    induction ds with
    | nil => intro vs h; unfold DenL at h; subst h; unfold seeGs; exact DenL.nil
    | cons d ds ih =>
      intro vs h
      unfold DenL at h
      obtain ⟨w, ws, e, a, b⟩ := h
      subst e
      unfold seeGs
      exact DenL.cons (hd d w a) (ih ws b)
  induction n with
  | zero =>
    have h0 : ∀ (d : D) (v : V), Den K μ H d v → Den K muN H (seeG μ 0 d) v := fun d v h => by
      unfold seeG; exact Den.less less_muN _ _ h
    exact ⟨h0, step 0 h0⟩
  | succ n ih =>
    have h1 : ∀ (d : D) (v : V), Den K μ H d v → Den K muN H (seeG μ (n + 1) d) v := by
      intro d v h
      cases d with
      | «at» a =>
        unfold seeG
        cases q : μ a with
        | none => exact Den.less less_muN _ _ h
        | some o =>
          cases o with
          | lst ds =>
            obtain ⟨vs, e, b⟩ := m a _ q
            unfold Den at h
            subst h
            show Den K muN H (.lst (seeGs μ n ds)) _
            unfold Den
            exact ⟨a, vs, rfl, ⟨rfl, e⟩, ih.2 ds vs b⟩
          | dct ks ds =>
            obtain ⟨vs, e, nn, b⟩ := m a _ q
            unfold Den at h
            subst h
            show Den K muN H (.dct ks (seeGs μ n ds)) _
            unfold Den
            exact ⟨a, vs, rfl, ⟨rfl, e⟩, nn, ih.2 ds vs b⟩
          | obj _ _ _ => exact Den.less less_muN _ _ h
      | tup ds =>
        unfold seeG
        unfold Den at h ⊢
        obtain ⟨p, vs, e, s, b⟩ := h
        refine ⟨p, vs, e, ?_, ih.2 ds vs b⟩
        rcases s with ⟨a, b⟩ | s
        · exact .inl ⟨rfl, b⟩
        · exact .inr s
      | lst ds =>
        unfold seeG
        unfold Den at h ⊢
        obtain ⟨p, vs, e, s, b⟩ := h
        exact ⟨p, vs, e, ⟨rfl, s.2⟩, ih.2 ds vs b⟩
      | dct ks ds =>
        unfold seeG
        unfold Den at h ⊢
        obtain ⟨p, vs, e, s, nn, b⟩ := h
        exact ⟨p, vs, e, ⟨rfl, s.2⟩, nn, ih.2 ds vs b⟩
      | _ => unfold seeG; exact Den.less less_muN _ _ h
    exact ⟨h1, step (n + 1) h1⟩
theorem evx_callY (i : Nat) (h : EvL K W X μ ρ tr fun μ1 ds => ds.length = n ∧ P muN (ds.map (seeG μ1 i)) (fun _ d => scal d = true ∧ Φ μ1 d) excN) : EvX K W X μ ρ (tCall (spD K n P) [] E0 tr) Φ := fun σ H Q m e l k =>
  h σ H _ m e l fun μ1 ds vs H1 ⟨hl, hp⟩ g1 m1 d1 => ⟨muN, ds.map (seeG μ1 i), _, excN, mem_muN, by rw [List.append_nil, ← seeGs_map]; exact (den_seeG m1 i).2 _ _ d1, by rw [List.length_map]; exact hl, hp, fun μ' d v H' ⟨hs, hq⟩ g mm dd =>
    k μ1 d v H' hq (g1.trans fun b u hb e => ⟨hb, (g b u rfl e).2⟩) (mem_whole m1 g) (den_scal hs dd), fun _ _ _ _ _ _ z => z.elim⟩
end
/-! ### plain data, dicts too, at most n deep (a dict counts for two) -/
def alE : Nat → D → Bool
  | _, .non => true
  | _, .bl _ => true
  | _, .int _ => true
  | _, .str _ => true
  | n + 1, .tup ds => ds.all (alE n)
  | n + 1, .lst ds => ds.all (alE n)
  | n + 2, .dct _ ds => ds.all (alE n)
  | _, _ => false
theorem alE_key (n : Nat) (k : Key) : alE n (keyD k) = true := by cases k <;> cases n <;> first | rfl | (rename_i n; cases n <;> rfl)
theorem alE_scal (n : Nat) : alE n .non = true ∧ (∀ b, alE n (.bl b) = true) ∧ (∀ i, alE n (.int i) = true) ∧ (∀ z, alE n (.str z) = true) := by
  refine ⟨?_, fun _ => ?_, fun _ => ?_, fun _ => ?_⟩ <;> (cases n with | zero => rfl | succ n => cases n <;> rfl)
theorem alE_tup {n : Nat} {ds : List D} : alE (n + 1) (.tup ds) = ds.all (alE n) := by cases n <;> rfl
theorem alE_lst {n : Nat} {ds : List D} : alE (n + 1) (.lst ds) = ds.all (alE n) := by cases n <;> rfl
theorem alE_dct {n : Nat} {ks : List Key} {ds : List D} : alE (n + 2) (.dct ks ds) = ds.all (alE n) := rfl
theorem alE_succ : ∀ (n : Nat) (d : D), alE n d = true → alE (n + 1) d = true := by
  intro n
  induction n using Nat.strongRecOn with
  | ind n ih =>
    intro d h
    cases d with
    | non => exact (alE_scal _).1
    | bl b => exact (alE_scal _).2.1 b
    | int i => exact (alE_scal _).2.2.1 i
    | str z => exact (alE_scal _).2.2.2 z
    | tup ds =>
      cases n with
      | zero => cases h
      | succ n =>
        rw [alE_tup, List.all_eq_true] at h ⊢
        exact fun d hd => ih n (by omega) d (h d hd)
    | lst ds =>
      cases n with
      | zero => cases h
      | succ n =>
        rw [alE_lst, List.all_eq_true] at h ⊢
        exact fun d hd => ih n (by omega) d (h d hd)
    | dct ks ds =>
      match n, h, ih with
      | 0, h, _ => cases h
      | 1, h, _ => cases h
      | n + 2, h, ih =>
        rw [alE_dct, List.all_eq_true] at h ⊢
        exact fun d hd => ih n (by omega) d (h d hd)
    | ty _ => cases n with | zero => cases h | succ n => cases n <;> cases h
    | frz _ => cases n with | zero => cases h | succ n => cases n <;> cases h
    | obj _ _ _ => cases n with | zero => cases h | succ n => cases n <;> cases h
    | exc _ _ => cases n with | zero => cases h | succ n => cases n <;> cases h
    | «at» _ => cases n with | zero => cases h | succ n => cases n <;> cases h
theorem alE_mono {n m : Nat} {d : D} (h : alE n d = true) (hm : n ≤ m) : alE m d = true := by
  obtain ⟨k, rfl⟩ := Nat.exists_eq_add_of_le hm
  clear hm
  induction k with
  | zero => exact h
  | succ k ih => exact alE_succ _ _ ih
/-- what is alike itself now -/
def Fine (μ : Mu) (n : Nat) (d : D) : Prop := alE n (seeG μ n d) = true
theorem seeG_pure (μ : Mu) : ∀ (n : Nat) (d : D) (m : Nat), alE m d = true → seeG μ n d = d := by
  intro n
  induction n with
  | zero => intro d m h; unfold seeG; rfl
  | succ n ih =>
    intro d m h
    have all : ∀ (ds : List D) (m : Nat), ds.all (alE m) = true → seeGs μ n ds = ds := fun ds m hd => by
      rw [seeGs_map]
      conv => rhs; rw [← List.map_id ds]
      exact List.map_congr_left fun d hm => ih d m (List.all_eq_true.mp hd d hm)
    cases d with
    | tup ds =>
      cases m with
      | zero => cases h
      | succ m => rw [alE_tup] at h; unfold seeG; rw [all ds m h]
    | lst ds =>
      cases m with
      | zero => cases h
      | succ m => rw [alE_lst] at h; unfold seeG; rw [all ds m h]
    | dct ks ds =>
      match m, h with
      | 0, h => cases h
      | 1, h => cases h
      | m + 2, h => rw [alE_dct] at h; unfold seeG; rw [all ds m h]
    | «at» _ => cases m with | zero => cases h | succ m => cases m <;> cases h
    | _ => unfold seeG; rfl
theorem fine_pure {μ : Mu} {n m : Nat} {d : D} (h : alE m d = true) (hm : m ≤ n) : Fine μ n d := by
  unfold Fine
  rw [seeG_pure μ n d m h]
  exact alE_mono h hm
/-- changes that put nothing but ints in lists and dicts -/
def Tame (μ μ' : Mu) : Prop := ∀ b o, μ b = some o → match o with
  | .lst ds => ∃ es, μ' b = some (.lst es) ∧ ∀ e ∈ es, e ∈ ds ∨ ∃ i, e = .int i
  | .dct _ ds => ∃ ks' es, μ' b = some (.dct ks' es) ∧ ∀ e ∈ es, e ∈ ds ∨ ∃ i, e = .int i
  | .obj _ _ _ => True
theorem Tame.refl (μ : Mu) : Tame μ μ := fun b o h => by
  cases o with
  | lst ds => exact ⟨ds, h, fun e he => .inl he⟩
  | dct ks ds => exact ⟨ks, ds, h, fun e he => .inl he⟩
  | obj _ _ _ => trivial
theorem Tame.trans {μ μ1 μ2 : Mu} (h : Tame μ μ1) (k : Tame μ1 μ2) : Tame μ μ2 := fun b o e => by
  have h1 := h b o e
  cases o with
  | lst ds =>
    obtain ⟨es, e1, q1⟩ := h1
    obtain ⟨fs, e2, q2⟩ := k b _ e1
    exact ⟨fs, e2, fun x hx => (q2 x hx).elim (q1 x) .inr⟩
  | dct ks ds =>
    obtain ⟨ks1, es, e1, q1⟩ := h1
    obtain ⟨ks2, fs, e2, q2⟩ := k b _ e1
    exact ⟨ks2, fs, e2, fun x hx => (q2 x hx).elim (q1 x) .inr⟩
  | obj _ _ _ => trivial
theorem tame_stay {μ μ' : Mu} (h : ∀ b o, μ b = some o → μ' b = some o) : Tame μ μ' := fun b o e => by
  cases o with
  | lst ds => exact ⟨ds, h b _ e, fun e he => .inl he⟩
  | dct ks ds => exact ⟨ks, ds, h b _ e, fun e he => .inl he⟩
  | obj _ _ _ => trivial
theorem tame_lst {μ : Mu} {p : Addr} {ds es : List D} (h : μ p = some (.lst ds)) (he : ∀ e ∈ es, e ∈ ds ∨ ∃ i, e = .int i) : Tame μ (mput μ p (.lst es)) := fun b o e => by
  by_cases hb : b = p
  · subst hb
    rw [h] at e; cases e
    exact ⟨es, mput_same, he⟩
  · have := Tame.refl μ b o e
    cases o with
    | lst ds => exact ⟨ds, by rw [mput_ne hb]; exact e, fun e he => .inl he⟩
    | dct ks ds => exact ⟨ks, ds, by rw [mput_ne hb]; exact e, fun e he => .inl he⟩
    | obj _ _ _ => trivial
theorem tame_dct {μ : Mu} {p : Addr} {ks ks' : List Key} {ds es : List D} (h : μ p = some (.dct ks ds)) (he : ∀ e ∈ es, e ∈ ds ∨ ∃ i, e = .int i) : Tame μ (mput μ p (.dct ks' es)) := fun b o e => by
  by_cases hb : b = p
  · subst hb
    rw [h] at e; cases e
    exact ⟨ks', es, mput_same, he⟩
  · cases o with
    | lst ds => exact ⟨ds, by rw [mput_ne hb]; exact e, fun e he => .inl he⟩
    | dct ks ds => exact ⟨ks, ds, by rw [mput_ne hb]; exact e, fun e he => .inl he⟩
    | obj _ _ _ => trivial
theorem tame_deck {a g : Addr} {c c' : Int} {μ μ' : Mu} (h : Deck a g c μ) (h' : Deck a g c' μ') (k : Keep a g μ μ') : Tame μ μ' := fun b o e => by
  obtain ⟨gs, o1, m1, k1, d⟩ := h
  obtain ⟨gs', o2, m2, k2, d'⟩ := h'
  by_cases ha : b = a
  · subst ha
    rw [d.ha] at e; cases e
    refine ⟨_, d'.ha, fun x hx => ?_⟩
    simp only [List.mem_cons, List.not_mem_nil, or_false] at hx
    rcases hx with rfl | rfl | rfl | rfl
    · exact .inl (List.mem_cons_self ..)
    · exact .inr ⟨_, rfl⟩
    · exact .inr ⟨_, rfl⟩
    · exact .inr ⟨_, rfl⟩
  · by_cases hg : b = g
    · subst hg
      rw [d.hg] at e; cases e
      refine ⟨_, d'.hg, fun x hx => ?_⟩
      obtain ⟨i, _, rfl⟩ := List.mem_map.mp hx
      exact .inr ⟨_, rfl⟩
    · have e2 := k b o ha hg e
      cases o with
      | lst ds => exact ⟨ds, e2, fun e he => .inl he⟩
      | dct ks ds => exact ⟨ks, ds, e2, fun e he => .inl he⟩
      | obj _ _ _ => trivial
theorem seeG_int (μ : Mu) (n : Nat) (i : Int) : seeG μ n (.int i) = .int i := by cases n <;> (unfold seeG; rfl)
theorem fine_tame {μ μ' : Mu} (t : Tame μ μ') : ∀ (n m : Nat) (d : D), alE m (seeG μ n d) = true → alE m (seeG μ' n d) = true := by
  intro n
  induction n with
  | zero => intro m d h; unfold seeG at h ⊢; exact h
  | succ n ih =>
    have all : ∀ (m : Nat) (ds es : List D), (∀ e ∈ es, e ∈ ds ∨ ∃ i, e = .int i) → (seeGs μ n ds).all (alE m) = true → (seeGs μ' n es).all (alE m) = true := fun m ds es hs h => by
      rw [seeGs_map, List.all_eq_true] at h ⊢
      intro x hx
      obtain ⟨e, he, rfl⟩ := List.mem_map.mp hx
      rcases hs e he with h1 | ⟨i, rfl⟩
      · exact ih m e (h _ (List.mem_map.mpr ⟨e, h1, rfl⟩))
      · rw [seeG_int]; exact (alE_scal m).2.2.1 i
    have lst : ∀ (m : Nat) (ds es : List D), (∀ e ∈ es, e ∈ ds ∨ ∃ i, e = .int i) → alE m (.lst (seeGs μ n ds)) = true → alE m (.lst (seeGs μ' n es)) = true := fun m ds es hs h => by
      cases m with
      | zero => cases h
      | succ m => rw [alE_lst] at h ⊢; exact all m ds es hs h
    have tup : ∀ (m : Nat) (ds : List D), alE m (.tup (seeGs μ n ds)) = true → alE m (.tup (seeGs μ' n ds)) = true := fun m ds h => by
      cases m with
      | zero => cases h
      | succ m => rw [alE_tup] at h ⊢; exact all m ds ds (fun e he => .inl he) h
    have dct : ∀ (m : Nat) (ks ks' : List Key) (ds es : List D), (∀ e ∈ es, e ∈ ds ∨ ∃ i, e = .int i) → alE m (.dct ks (seeGs μ n ds)) = true → alE m (.dct ks' (seeGs μ' n es)) = true := fun m ks ks' ds es hs h => by
      match m, h with
      | 0, h => cases h
      | 1, h => cases h
      | m + 2, h => rw [alE_dct] at h ⊢; exact all m ds es hs h
    intro m d h
    cases d with
    | «at» a =>
      unfold seeG at h ⊢
      cases q : μ a with
      | none => rw [q] at h; cases m with | zero => cases h | succ m => cases m <;> cases h
      | some o =>
        rw [q] at h
        cases o with
        | lst ds =>
          obtain ⟨es, e1, hs⟩ := t a _ q
          rw [e1]
          exact lst m ds es hs h
        | dct ks ds =>
          obtain ⟨ks', es, e1, hs⟩ := t a _ q
          rw [e1]
          exact dct m ks ks' ds es hs h
        | obj _ _ _ => cases m with | zero => cases h | succ m => cases m <;> cases h
    | tup ds => unfold seeG at h ⊢; exact tup m ds h
    | lst ds => unfold seeG at h ⊢; exact lst m ds ds (fun e he => .inl he) h
    | dct ks ds => unfold seeG at h ⊢; exact dct m ks ks ds ds (fun e he => .inl he) h
    | _ => unfold seeG at h ⊢; exact h
theorem Fine.tame {μ μ' : Mu} {n : Nat} {d : D} (h : Fine μ n d) (t : Tame μ μ') : Fine μ' n d := fine_tame t n n d h
/-- a list whose things are fine -/
theorem fine_lst {μ : Mu} {p : Addr} {n : Nat} {ds : List D} (hp : μ p = some (.lst ds)) (h : ∀ d ∈ ds, Fine μ n d) : Fine μ (n + 1) (.at p) := by
  unfold Fine seeG
  rw [hp]
  show alE (n + 1) (.lst (seeGs μ n ds)) = true
  rw [alE_lst, seeGs_map, List.all_eq_true]
  intro x hx
  obtain ⟨d, hd, rfl⟩ := List.mem_map.mp hx
  exact h d hd
theorem Fine.up1 {μ : Mu} : ∀ (n : Nat) (m : Nat) (d : D), alE m (seeG μ n d) = true → seeG μ (n + 1) d = seeG μ n d := by
  intro n
  induction n with
  | zero =>
    intro m d h
    rw [show seeG μ 0 d = d by unfold seeG; rfl] at h ⊢
    exact seeG_pure μ 1 d m h
  | succ n ih =>
    have all : ∀ (m : Nat) (ds : List D), (seeGs μ n ds).all (alE m) = true → seeGs μ (n + 1) ds = seeGs μ n ds := fun m ds h => by
      rw [seeGs_map, List.all_eq_true] at h
      rw [seeGs_map, seeGs_map]
      exact List.map_congr_left fun d hd => ih m d (h _ (List.mem_map.mpr ⟨d, hd, rfl⟩))
    intro m d h
    cases d with
    | «at» a =>
      unfold seeG at h ⊢
      cases q : μ a with
      | none => rfl
      | some o =>
        rw [q] at h
        cases o with
        | lst ds =>
          cases m with
          | zero => cases h
          | succ m => rw [alE_lst] at h; show D.lst _ = D.lst _; rw [all m ds h]
        | dct ks ds =>
          match m, h with
          | 0, h => cases h
          | 1, h => cases h
          | m + 2, h => rw [alE_dct] at h; show D.dct _ _ = D.dct _ _; rw [all m ds h]
        | obj _ _ _ => cases m with | zero => cases h | succ m => cases m <;> cases h
    | tup ds =>
      unfold seeG at h ⊢
      cases m with
      | zero => cases h
      | succ m => rw [alE_tup] at h; rw [all m ds h]
    | lst ds =>
      unfold seeG at h ⊢
      cases m with
      | zero => cases h
      | succ m => rw [alE_lst] at h; rw [all m ds h]
    | dct ks ds =>
      unfold seeG at h ⊢
      match m, h with
      | 0, h => cases h
      | 1, h => cases h
      | m + 2, h => rw [alE_dct] at h; rw [all m ds h]
    | _ => unfold seeG; rfl
theorem Fine.up {μ : Mu} {n m : Nat} {d : D} (h : Fine μ n d) (hm : n ≤ m) : Fine μ m d := by
  obtain ⟨k, rfl⟩ := Nat.exists_eq_add_of_le hm
  clear hm
  induction k with
  | zero => exact h
  | succ k ih =>
    unfold Fine at ih ⊢
    rw [Nat.add_succ, Fine.up1 _ _ _ ih]
    exact alE_succ _ _ ih
theorem fine_dct {μ : Mu} {p : Addr} {n : Nat} {ks : List Key} {ds : List D} (hp : μ p = some (.dct ks ds)) (h : ∀ d ∈ ds, Fine μ n d) : Fine μ (n + 2) (.at p) := by
  have h2 : ∀ d ∈ ds, alE n (seeG μ (n + 1) d) = true := fun d hd => by rw [Fine.up1 n n d (h d hd)]; exact h d hd
  unfold Fine seeG
  rw [hp]
  show alE (n + 2) (.dct ks (seeGs μ (n + 1) ds)) = true
  rw [alE_dct, seeGs_map, List.all_eq_true]
  intro x hx
  obtain ⟨d, hd, rfl⟩ := List.mem_map.mp hx
  exact h2 d hd
/-- the laws' comparison of what is the same, dicts too -/
def P_alikeE : Nat → PD
  | 0 => fun _ _ _ _ => False
  | n + 1 => fun μ ds post _ => ∃ d, ds = [d, d] ∧ alE n d = true ∧ post μ (.bl true)
section
variable {K : PySem.W.Frag} {W : WX} {X : XD} {μ : Mu} {ρ : Ro} {Φ : DP} {te : TE} {tt : TT} {g : TG} {wi : TI}
theorem evx_dnew (h : Φ μ (.dct [] [])) : EvX K W X μ ρ tDNewK Φ := fun σ H Q m e l k p hp =>
  k _ _ _ _ h (Grow.new hp) (m.new hp) (by unfold Den; exact ⟨p, [], rfl, ⟨m.free hp, upd_same⟩, rfl, DenL.nil⟩)
/-- a comprehension that draws, the list found kept as one that will change -/
theorem evx_lcSkM {vs : List Nat} {a ga : Addr} (S0 : Int → Mu → Prop) (hS0 : Src S0 a ga) (h : ItX K W X μ ρ wi fun μ1 ds S => (ds.length ≤ 1000000 ∧ ∀ m, S m) ∧ ∃ (c st : Int) (R : Nat → List D → Prop), S0 c μ1 ∧ R 0 [] ∧
    (∀ i d μ' acc, ds[i]? = some d → acc.length ≤ i → R i acc → S0 (c + st * i) μ' → Keep a ga μ1 μ' → TcX K W X vs μ' (wipeD ρ vs) g d fun μ2 ρ2 =>
      EvB K W X μ2 ρ2 tt fun μ3 b => if b = true then Keep a ga μ' μ3 ∧ EvX K W X μ3 ρ2 te fun μ4 y => Keep a ga μ' μ4 ∧ S0 (c + st * (i + 1)) μ4 ∧ R (i + 1) (acc ++ [y]) else Keep a ga μ' μ3 ∧ S0 (c + st * (i + 1)) μ3 ∧ R (i + 1) acc) ∧
    ∀ p μ' acc, μ1 p = none → acc.length ≤ ds.length → μ' p = some (.lst acc) → R ds.length acc → S0 (c + st * ds.length) μ' → Keep a ga μ1 μ' → Φ μ' (.at p)) : EvX K W X μ ρ (tLc wi g tt te vs) Φ := by
  refine evx_lcI fun σ H R m e l k => h σ H R m e l fun μ1 ds S J H1 ⟨hl, c, st, R, hd, h0, hstep, hend⟩ g1 m1 ok => k μ1 ds S J H1 ⟨hl, ?_⟩ g1 m1 ok
  refine ⟨fun i μ' acc => S0 (c + st * i) μ' ∧ Keep a ga μ1 μ' ∧ R i acc, ⟨hS0.mono hd (by simp), Keep.refl _ _ _, h0⟩, ?_, ?_, ?_⟩
  · rintro Dl hD i acc μ' μ'' hb ⟨h1, h2, h3⟩
    have hn := hS0.na hd hD
    exact ⟨hS0.off h1 hn.1 hn.2 hb, h2.off hD hb, h3⟩
  · rintro Dl hD i d μ' acc hi ha hDl ⟨h1, h2, h3⟩
    have hn := hS0.na hd hD
    intro σ H v Q m e dd k
    refine hstep i d μ' acc hi ha h3 h1 h2 σ H v Q m e dd fun ρ2 σ2 q2 e2 hw => k ρ2 σ2 ?_ e2 hw
    refine q2.imp fun μ3 b r => ?_
    cases b with
    | false =>
      rw [if_neg (by decide)] at r
      refine ⟨r.1 Dl _ hn.1 hn.2 hDl, ?_⟩
      rw [if_neg (by decide)]
      exact ⟨hS0.mono r.2.1 (by rw [Int.natCast_add]; exact Int.le_refl _), h2.trans r.1, r.2.2⟩
    | true =>
      rw [if_pos rfl] at r
      refine ⟨r.1 Dl _ hn.1 hn.2 hDl, ?_⟩
      rw [if_pos rfl]
      refine r.2.imp fun μ4 y ⟨s1, s2, s3⟩ => ⟨s1 Dl _ hn.1 hn.2 hDl, hS0.mono s2 (by rw [Int.natCast_add]; exact Int.le_refl _), h2.trans s1, s3⟩
  · exact .inr fun p μ' acc hp ha hd' ⟨h1, h2, h3⟩ => hend p μ' acc hp ha hd' h3 h1 h2
end
/-! ### drawn values -/
/-- a value told now (μ0: the store ahead): plain, or a new list, a new dict of plain things -/
def LiveV (a g : Addr) (b m : Nat) (μ0 μ' : Mu) (d : D) : Prop := (alE m d = true ∧ ∃ T, tyD d = some T ∧ T ≠ "list" ∧ T ≠ "dict") ∨
  (∃ p ds, d = .at p ∧ μ' p = some (.lst ds) ∧ ds.length ≤ b ∧ p ≠ a ∧ p ≠ g ∧ μ0 p = none ∧ ∀ e ∈ ds, alE m e = true) ∨
  (∃ p ks ds, d = .at p ∧ μ' p = some (.dct ks ds) ∧ ks.length ≤ b ∧ p ≠ a ∧ p ≠ g ∧ μ0 p = none ∧ ∀ e ∈ ds, alE m e = true)
theorem live_frz {a g : Addr} {b m : Nat} {c : Int} {μ0 μ' : Mu} {d : D} (h : LiveV a g b m μ0 μ' d) (D0 : Deck a g c μ') (K0 : Keep a g μ0 μ') :
    ∃ μ'' d', Less μ' μ'' ∧ (∀ b o, μ'' b = some o → μ' b = some o) ∧ (∀ (K : PySem.W.Frag) H v, Mem K μ' H → Den K μ' H d v → Den K μ'' H d' v) ∧ alE (m + 2) d' = true ∧ Deck a g c μ'' ∧ Keep a g μ0 μ'' := by
  have cutb : ∀ p b o, mcut μ' p b = some o → μ' b = some o := fun p b o e => by
    by_cases hb : b = p
    · rw [hb, mcut_same] at e; cases e
    · rwa [mcut_ne hb] at e
  have kp : ∀ p, μ0 p = none → Keep a g μ0 (mcut μ' p) := fun p hp b o h1 h2 e => by
    have : b ≠ p := fun z => by rw [z, hp] at e; cases e
    rw [mcut_ne this]; exact K0 b o h1 h2 e
  rcases h with ⟨h1, _⟩ | ⟨p, ds, rfl, h1, _, ha, hg, h0, he⟩ | ⟨p, ks, ds, rfl, h1, _, ha, hg, h0, he⟩
  · exact ⟨μ', d, fun _ h => h, fun _ _ h => h, fun _ _ _ _ h => h, alE_mono h1 (by omega), D0, K0⟩
  · refine ⟨mcut μ' p, .lst ds, Less.cut, cutb p, fun K H v mm dd => ?_, by rw [alE_lst, List.all_eq_true]; exact fun e h => alE_succ _ _ (he e h), D0.cut ha hg, kp p h0⟩
    obtain ⟨vs, q, b⟩ := mm p _ h1
    unfold Den at dd ⊢
    exact ⟨p, vs, dd, ⟨mcut_same, q⟩, DenL.less Less.cut _ _ b⟩
  · refine ⟨mcut μ' p, .dct ks ds, Less.cut, cutb p, fun K H v mm dd => ?_, by rw [alE_dct, List.all_eq_true]; exact he, D0.cut ha hg, kp p h0⟩
    obtain ⟨vs, q, n, b⟩ := mm p _ h1
    unfold Den at dd ⊢
    exact ⟨p, vs, dd, ⟨mcut_same, q⟩, n, DenL.less Less.cut _ _ b⟩
local macro_rules | `(tactic| walk_at "d2") => `(tactic| first
  | with_reducible refine gs_seq ?_
  | with_reducible refine gs_asg ?_
  | with_reducible refine gs_ret ?_
  | with_reducible refine gs_drop ?_
  | with_reducible refine gs_next ?_
  | with_reducible refine gs_par ?_
  | with_reducible refine gs_retN ?_
  | ((with_reducible refine evx_var (d := ?dd) ?hh ?_); (case hh => exact rfl))
  | with_reducible refine evx_int ?_
  | with_reducible refine evx_str ?_
  | with_reducible refine evx_bl ?_
  | with_reducible refine evx_non ?_
  | with_reducible refine evx_ty ?_
  | with_reducible refine evx_at ?_
  | with_reducible refine evx_op ?_
  | with_reducible refine evx_un ?_
  | ((with_reducible refine evx_isT (cs := ["list", "tuple"]) ?hr ?hc ?_); (case hr => exact fun μ1 Ψ q => evl_cons (evx_ty (evl_cons (evx_ty (evl_nil q))))); (case hc => decide))
  | ((fail_if_success (with_reducible show EvX _ _ _ _ _ (tCB _ (tCons _ (tCons (tTup _) tNil))) _)); (with_reducible refine evx_cb ?_))
  | with_reducible refine evl_cons ?_
  | with_reducible refine evl_nil ?_
  | with_reducible refine evx_tup ?_
  | with_reducible refine evx_if ?_
  | with_reducible refine evb_test ?_
  | with_reducible refine evb_B ?_
  | with_reducible refine evb_and ?_
  | with_reducible refine evb_or ?_
  | with_reducible refine evb_not ?_
  | with_reducible refine evx_andV ?_
  | with_reducible refine evx_orV ?_
  | with_reducible refine evx_notV ?_
  | with_reducible refine evx_isN ?_
  | with_reducible refine evx_notN ?_
  | with_reducible refine evx_xv ?_
  | with_reducible refine evx_call ?_
  | with_reducible refine evx_callS ?_
  | with_reducible refine evx_ck ?_
  | with_reducible refine evx_ckS ?_
  | with_reducible refine evx_sl ?_
  | with_reducible refine evo_none ?_
  | with_reducible refine evo_part ?_
  | ((with_reducible refine slx_S ?_ ?_); (exact Nat.le_of_ble_eq_true rfl))
  | with_reducible refine tgx_name ?_
  | ((with_reducible refine tgx_tup ?_ ?_); exact rfl)
  | with_reducible refine tgsx_cons ?_
  | with_reducible refine tgsx_nil ?_
  | with_reducible refine gs_break ?_
  | with_reducible refine gs_cont ?_
  | walk_at "dop")
local macro_rules | `(tactic| walk_at "d1") => `(tactic| first | walk_at "d2" | with_reducible refine gs_if ?_)
local macro_rules | `(tactic| walk_at "dl") => `(tactic| refine ⟨Nat.le_of_ble_eq_true rfl, ?_⟩)
local macro_rules | `(tactic| walk_at "dop") => `(tactic| first
  | with_reducible refine opx_i0 ?_
  | with_reducible refine opx_b0 ?_
  | with_reducible refine opx_l (opx_i0 ?_)
  | with_reducible refine opx_l (opx_eqI ?_)
  | with_reducible refine opx_l (opx_neI ?_)
  | with_reducible refine opx_l (opx_eqS ?_)
  | with_reducible refine opx_l (opx_neS ?_)
  | with_reducible refine opx_l (opx_eqB ?_)
  | with_reducible refine opx_l (opx_neB ?_)
  | ((with_reducible refine opx_i ?_ ?_); walk_at "ds")
  | ((with_reducible refine opx_l (opx_i ?_ ?_)); walk_at "ds")
  | with_reducible refine unx_i ?_
  | ((with_reducible refine cax_is (T := ?tt) (b := ?bb) ?ht ?hk ?_); (case ht => exact rfl); (case hk => walk_at "dty"))
  | ((refine cax_len (n := ?nn) ?hx ?_); (case hx => exact rfl))
  | with_reducible refine cax_abs ?_
  | with_reducible refine cax_int ?_
  | with_reducible refine cax_gcd ?_
  | with_reducible refine cax_max2 ?_
  | with_reducible refine cax_min2 ?_
  | ((with_reducible show OpX _ (rIx _) _ (D.at _) _ _); (refine opx_ixA (es := ?ee) (d := ?dd) ?h1 ?h2 ?_); (case h1 => first | assumption | exact mput_same); (case h2 => exact rfl))
  | ((with_reducible show OpX _ (rIx _) _ _ _ _); (refine opx_ix (es := ?ee) (d := ?dd) ?h1 ?h2 ?_); (case h1 => first | exact rfl | assumption); (case h2 => first | exact rfl | assumption))
  | (refine ⟨Nat.le_of_ble_eq_true rfl, ?_⟩)
  | with_reducible refine ⟨_, rfl, ?_⟩
  | ((refine ⟨?tt, ?bb, ?ht, ?hk, ?_⟩); (case ht => exact rfl); (case hk => walk_at "dtys"))
  | with_reducible refine ⟨_, _, rfl, ?_⟩
  | (refine ⟨rfl, ?_⟩))
/-- a side condition: known, or plain arithmetic -/
local macro_rules | `(tactic| walk_at "ds") => `(tactic| first | assumption | exact ⟨by decide, by decide⟩ | (exact by decide) | omega)
local macro_rules | `(tactic| walk_at "dix") => `(tactic| first | (exact rfl; exact rfl) | (first | assumption | exact rfl); (first | assumption | exact rfl))
local macro_rules | `(tactic| walk_at "dx") => `(tactic| ((repeat (walk_at "d1")); try dsimp only))
/-- as dx, but up to an if -/
local macro_rules | `(tactic| walk_at "dn") => `(tactic| ((repeat (walk_at "d2")); try dsimp only))
local macro_rules | `(tactic| walk_at "d0") => `(tactic| try dsimp only [cxOf, Cx.nox, Cx.wish, Cx.tr, Cx.suite])
local macro_rules | `(tactic| walk_at "dty") => `(tactic| first | exact kit_int_int | exact kit_int_bool | exact kit_int_str | exact kit_int_list | exact kit_int_tuple | exact kit_bool_bool | exact kit_bool_int | exact kit_bool_str | exact kit_str_str | exact kit_tuple_tuple | exact kit_tuple_list | exact kit_list_list | exact kit_list_tuple | exact kit_NoneType_int | exact kit_NoneType_bool | exact kit_NoneType_str | exact kit_NoneType_list | exact kit_tuple_str | exact kit_list_str | exact kit_str_bool | exact kit_str_int | exact kit_str_list | exact kit_str_tuple | exact kit_bool_list | exact kit_bool_tuple)
local macro_rules | `(tactic| walk_at "dtys") => `(tactic| first | exact kits_int_lt | exact kits_bool_lt | exact kits_str_lt | exact kits_tuple_lt | exact kits_list_lt | exact kits_NoneType_lt)
local macro_rules | `(tactic| walk_at "dz") => `(tactic| ((walk_at "dx"); (repeat ((first | refine ifY rfl ?_ | refine ifNo rfl ?_); walk_at "dx"))))
def top (i : Nat) : Stmt := PySem.Challenge.pw_textworths_k00_errors_hold_values.main.body.getD i (.Pass ⟨0, 0, 0, 0⟩)
abbrev s_WorthError___init__ : Stmt := inClass (top 1) 0
theorem sc_WorthError___init__ : FnScope ["self", "value"] ["self", "value"] (defScope s_WorthError___init__) := ⟨rfl, rfl, rfl, by decide +kernel, rfl, by decide +kernel, by decide +kernel⟩
abbrev s__law_deck : Stmt := top 19
theorem sc__law_deck : FnScope ["_law_script", "_law_mark", "_law_great", "_law_cell"] ["_law_script"] (defScope s__law_deck) := ⟨rfl, rfl, rfl, by decide +kernel, rfl, by decide +kernel, by decide +kernel⟩
abbrev s__law_draw : Stmt := top 20
theorem sc__law_draw : FnScope ["_law_deck_here", "_law_limit", "_law_found", "_law_stir"] ["_law_deck_here", "_law_limit"] (defScope s__law_draw) := ⟨rfl, rfl, rfl, by decide +kernel, rfl, by decide +kernel, by decide +kernel⟩
abbrev s__law_text : Stmt := top 21
theorem sc__law_text : FnScope ["_law_deck_here", "_law_letters", "_law_k"] ["_law_deck_here"] (defScope s__law_text) := ⟨rfl, rfl, rfl, by decide +kernel, rfl, by decide +kernel, by decide +kernel⟩
abbrev s__law_value : Stmt := top 22
theorem sc__law_value : FnScope ["_law_deck_here", "_law_depth", "_law_kind", "_law_k", "_law_found", "_law_table"] ["_law_deck_here", "_law_depth"] (defScope s__law_value) := ⟨rfl, rfl, rfl, by decide +kernel, rfl, by decide +kernel, by decide +kernel⟩
abbrev s__law_alike : Stmt := top 23
theorem sc__law_alike : FnScope ["_law_found", "_law_due", "_law_one", "_law_other"] ["_law_found", "_law_due"] (defScope s__law_alike) := ⟨rfl, rfl, rfl, by decide +kernel, rfl, by decide +kernel, by decide +kernel⟩
abbrev s__law_made : Stmt := top 24
theorem sc__law_made : FnScope ["_law_held"] ["_law_held"] (defScope s__law_made) := ⟨rfl, rfl, rfl, by decide +kernel, rfl, by decide +kernel, by decide +kernel⟩
abbrev s__law_named : Stmt := top 25
theorem sc__law_named : FnScope ["_law_held"] ["_law_held"] (defScope s__law_named) := ⟨rfl, rfl, rfl, by decide +kernel, rfl, by decide +kernel, by decide +kernel⟩
abbrev s__law_kinds : Stmt := top 26
theorem sc__law_kinds : FnScope ["_law_error"] ["_law_error"] (defScope s__law_kinds) := ⟨rfl, rfl, rfl, by decide +kernel, rfl, by decide +kernel, by decide +kernel⟩
abbrev s_law : Stmt := top 27
theorem sc_law : FnScope ["_law_script", "_law_deck_here", "_law_k", "_law_held", "_law_inner", "_law_table", "_law_place", "_law_rows", "_law_errors", "_law_one", "_law_j"] ["_law_script"] (defScope s_law) := ⟨rfl, rfl, rfl, by decide +kernel, rfl, by decide +kernel, by decide +kernel⟩
def P_deck : PD := fun μ ds post _ => ∃ ns : List Int, ds = [.frz (ns.map D.int)] ∧ ns.length ≤ 63 ∧ (∀ n ∈ ns, n.natAbs < 2 ^ 1048576) ∧
  ∀ μ' a g, Deck a g 0 μ' → But a g μ μ' → μ a = none → μ g = none → post μ' (.at a)
def P_draw : PD := fun μ ds post _ => ∃ (a g : Addr) (c n : Int), ds = [.at a, .int n] ∧ Deck a g c μ ∧ c ≤ 1000000 ∧ 0 < n ∧ n.natAbs < 2 ^ 9000 ∧
  ∀ μ' x, 0 ≤ x → x < n → Deck a g (c + 1) μ' → But a g μ μ' → post μ' (.int x)
theorem fmod_nn {x n : Int} (h : 0 < n) : 0 ≤ x.fmod n ∧ x.fmod n < n := by
  rw [Int.fmod_eq_emod_of_nonneg _ (by omega)]
  exact ⟨Int.emod_nonneg _ (by omega), Int.emod_lt_of_pos _ h⟩
theorem fdiv_nn {x n : Int} {b : Nat} (h : 0 < n) (hx : 0 ≤ x) (hb : x.natAbs < b) : 0 ≤ x.fdiv n ∧ (x.fdiv n).natAbs < b := by
  rw [Int.fdiv_eq_ediv_of_nonneg _ (by omega)]
  have h1 := Int.ediv_nonneg hx (Int.le_of_lt h)
  have h2 : x / n ≤ x := Int.ediv_le_self _ hx
  omega
theorem p10_18 : (10 : Int) ^ (18 : Int).toNat = 1000000000000000000 := by decide
section
variable {P : Program} {w : World} {K : PySem.W.Frag} {mg : Str → Option Value} {base : Heap}
theorem pow_lt {n : Int} (a : Nat) (h0 : 0 ≤ n) (h : n < 2 ^ a) : n.natAbs < 2 ^ a := by
  have : ((n.natAbs : Nat) : Int) = n := by omega
  have h2 : ((n.natAbs : Nat) : Int) < ((2 ^ a : Nat) : Int) := by
    rw [this, Int.natCast_pow]; exact h
  exact Int.ofNat_lt.mp h2
theorem big_sub {n : Int} (h : n.natAbs < 2 ^ 1048576) : (n - 1000000000000000000).natAbs < 2 ^ 1048577 := by
  have e : (2 : Nat) ^ 1048577 = 2 ^ 1048576 * 2 := Nat.pow_succ ..
  have h2 : 2 ^ 64 ≤ (2 : Nat) ^ 1048576 := Nat.pow_le_pow_right (by decide) (by decide)
  have h3 : (1000000000000000000 : Nat) ≤ 2 ^ 64 := by decide
  generalize (2 : Nat) ^ 1048577 = A at *
  generalize (2 : Nat) ^ 1048576 = B at *
  generalize (2 : Nat) ^ 64 = C at *
  omega
theorem mark_ok (x : Int) : 0 ≤ x.fmod 1000000000000000003 + 1 ∧ x.fmod 1000000000000000003 + 1 ≤ 1000000000000000003 := by
  have := fmod_nn (x := x) (n := 1000000000000000003) (by decide)
  omega
theorem c_deck (h : Std K mg "_law_deck" s__law_deck) (n_int : mg "int" = none) : Cal P w K mg base CX0 1 "_law_deck" s__law_deck ["_law_script"] (spD K 1 P_deck) := by
  refine cal0 h sc__law_deck (fun _ _ _ _ _ _ us hl => match us, hl with | [_], _ => rfl) fun f cdv A outer s H E hr => ⟨_,
    have hu64 := hr.units; (pss_cons (ps_par (i := 1) (j := 2) rfl sc__law_deck.nd rfl rfl (by decide) rfl rfl (pa_cons pe_int (pa_cons (pe_lst pa_nil) pa_nil)) (by rfl))
 (pss_cons (ps_for PassesOwn.never rfl (pi_list (pv 0)) (pg_name (i := 3) sc__law_deck.nd rfl (Or.inl rfl))
 (pss_one (ps_if (pt_cmpR op_ge (pv 3) (pe_op op_powB pe_int pe_int) (nomark _))
 (pss_one (ps_expr (pe_bm PySem.F.plainAttrs_list PySem.F.slot_list_insert PySem.F.type_list_insert mt_insert (pv 2) (pa_cons pe_int (pa_cons (pe_op op_sub (pv 3) (pe_op op_powB pe_int pe_int)) pa_nil)))))
 (pss_one (ps_set (i := 1) sc__law_deck.nd rfl (Or.inl rfl) (pe_op op_addU (pe_op op_modN (pe_callTy call_int1 (by rfl) n_int (by decide +kernel) (pa_cons (pe_op op_powB (pe_op op_addU (pv 1) (pe_op op_modN (pe_callTy call_int1 (by rfl) n_int (by decide +kernel) (pa_cons (pv 3) pa_nil)) pe_int)) pe_int) pa_nil)) pe_int) pe_int))))))
 (pss_one (ps_ret (pe_lst (pa_cons (pv 2) (pa_cons pe_int (pa_cons (pv 1) (pa_cons pe_int pa_nil))))))))), fun μ ds post exc hl hP => ?_⟩
  obtain ⟨ns, rfl, hn63, hbits, hp⟩ := hP
  walk_at "dx"
  refine evx_lstM ?_
  walk_at "dx"
  intro g hg
  walk_at "dx"
  refine gs_for (itx_list ?_)
  walk_at "dx"
  refine ⟨_, _, isL_frz, ?_⟩
  refine ⟨fun i μ' ρ' => ∃ (gs : List Int) (m : Int) (v : Option D), ρ' = [some (.frz (ns.map D.int)), some (.int m), some (.at g), v] ∧ μ' g = some (.lst (gs.map D.int)) ∧ (∀ b, b ≠ g → μ' b = μ b) ∧
    (∀ x ∈ gs, 0 ≤ x ∧ x.natAbs < 2 ^ 1048577) ∧ gs.length ≤ i ∧ 0 ≤ m ∧ m ≤ 1000000000000000003, ⟨[], 40961, none, rfl, mput_same, fun b hb => mput_ne hb, List.forall_mem_nil _, Nat.le_refl _, by decide, by decide⟩, fun _ _ _ _ _ => True.intro, ?_, ?_⟩
  · rintro i d μ' ρ' hd ⟨gs, m, v, rfl, h1, h2, h3, h4, h5, h6⟩
    have hi : i < (ns.map D.int).length := (List.getElem?_eq_some_iff.mp hd).1
    rw [List.length_map] at hi
    obtain ⟨n, hn, rfl⟩ : ∃ n ∈ ns, d = .int n := by
      have := List.mem_of_getElem? hd
      obtain ⟨n, hn, rfl⟩ := List.mem_map.mp this
      exact ⟨n, hn, rfl⟩
    have hb := hbits n hn
    have p1 : CPowB 10 18 := ⟨by decide, 4, by decide, by decide⟩
    have f1 := fmod_nn (x := n) (n := 1000000000039) (by decide)
    have p2 : CPowB (m + n.fmod 1000000000039) 3 := ⟨by decide, 64, by omega, by decide⟩
    walk_at "dx"
    rw [p10_18]
    refine ifD (fun hc => ?_) (fun hc => ?_)
    · walk_at "dx"
      refine evx_ins0 ?_
      walk_at "dx"
      refine ⟨g, _, rfl, h1, ?_⟩
      walk_at "dx"
      rw [p10_18]
      refine ⟨_, h1, by rw [List.length_map]; omega, (n - 1000000000000000000) :: gs, m, _, rfl, mput_same, fun b hb => (mput_ne hb).trans (h2 b hb), ?_, ?_, h5, h6⟩
      · intro x hx
        rcases List.mem_cons.mp hx with rfl | hx
        · exact ⟨by omega, big_sub hb⟩
        · exact h3 x hx
      · rw [List.length_cons]; omega
    · walk_at "dx"
      have := mark_ok ((m + n.fmod 1000000000039) ^ (3 : Int).toNat)
      exact ⟨gs, _, _, rfl, h1, h2, h3, by omega, this.1, this.2⟩
  · rintro μ' ρ' ⟨gs, m, v, rfl, h1, h2, h3, h4, h5, h6⟩
    walk_at "dx"
    refine evx_lstM ?_
    walk_at "dx"
    intro a ha
    have hne : a ≠ g := fun z => by rw [z, h1] at ha; cases ha
    refine hp _ a g ⟨gs, 0, m, 0, hne, mput_same, by rw [mput_ne (Ne.symm hne)]; exact h1, h3, by decide, Nat.two_pow_pos _, h5, h6, by decide, by decide⟩ (fun b hb hb2 => (mput_ne hb).trans (h2 b hb2)) (by rw [← h2 a hne]; exact ha) hg
end
section
variable {P : Program} {w : World} {K : PySem.W.Frag} {mg : Str → Option Value} {base : Heap}
theorem getLast_map {gs : List Int} (h : gs ≠ []) : ∃ x, x ∈ gs ∧ (gs.map D.int).getLast? = some (.int x) ∧ (gs.map D.int).dropLast = (gs.dropLast).map D.int := by
  refine ⟨gs.getLast h, List.getLast_mem h, ?_, ?_⟩
  · rw [List.getLast?_map, List.getLast?_eq_some_getLast h]
    rfl
  · rw [List.map_dropLast]
theorem c_draw (h : Std K mg "_law_draw" s__law_draw) (n_int : mg "int" = none) : Cal P w K mg base CX0 1 "_law_draw" s__law_draw ["_law_deck_here", "_law_limit"] (spD K 2 P_draw) := by
  refine cal0 h sc__law_draw (fun _ _ _ _ _ _ us hl => match us, hl with | [_, _], _ => rfl) fun f cdv A outer s H E hr => ⟨_,
    have hu64 := hr.units; (pss_cons (ps_if (PW.pt (pw_and (pt_cmpR (op_eqU hu64) (pe_ix ix_seq (pv 0) pe_int (fun _ _ => rfl)) pe_int (nomark _)) (pw_and1 (pt_cmpR (op_neU hu64) (pe_ix ix_seq (pv 0) pe_int (fun _ _ => rfl)) (pe_lst pa_nil) (nomark _)))))
 (pss_one (ps_asg (pe_bm0 PySem.F.plainAttrs_list PySem.F.slot_list_pop PySem.F.type_list_pop mt_pop (pe_ix ix_seq (pv 0) pe_int (fun _ _ => rfl))) (pg_sub (pv 0) pe_int set_list)))
 pss_nil)
 (pss_cons (ps_if (pt_cmpR op_gt (pe_ix ix_seq (pv 0) pe_int (fun _ _ => rfl)) pe_int (nomark _))
 (pss_cons (ps_set (i := 2) sc__law_draw.nd rfl (Or.inl rfl) (pe_op op_modN (pe_callTy call_int1 (by rfl) n_int (by decide +kernel) (pa_cons (pe_ix ix_seq (pv 0) pe_int (fun _ _ => rfl)) pa_nil)) (pv 1)))
 (pss_cons (ps_asg (pe_op op_divB (pe_ix ix_seq (pv 0) pe_int (fun _ _ => rfl)) (pv 1)) (pg_sub (pv 0) pe_int set_list))
 (pss_one (ps_ret (pv 2)))))
 pss_nil)
 (pss_cons (ps_asg (pe_op op_addU (pe_ix ix_seq (pv 0) pe_int (fun _ _ => rfl)) pe_int) (pg_sub (pv 0) pe_int set_list))
 (pss_cons (ps_set (i := 3) sc__law_draw.nd rfl (Or.inl rfl) (pe_op op_modN (pe_callTy call_int1 (by rfl) n_int (by decide +kernel) (pa_cons (pe_op op_powB (pe_op op_addU (pe_ix ix_seq (pv 0) pe_int (fun _ _ => rfl)) (pe_op op_mulU (pe_op op_mulU pe_int (pe_ix ix_seq (pv 0) pe_int (fun _ _ => rfl))) (pe_ix ix_seq (pv 0) pe_int (fun _ _ => rfl)))) pe_int) pa_nil)) pe_int))
 (pss_one (ps_ret (pe_op op_modN (pe_op op_divB (pe_op op_modN (pe_callTy call_int1 (by rfl) n_int (by decide +kernel) (pa_cons (pe_op op_mulU (pv 3) (pe_op op_addU (pv 3) pe_int)) pa_nil)) pe_int) pe_int) (pv 1)))))))), fun μ ds post exc hl hP => ?_⟩
  obtain ⟨a, g, c, n, rfl, D0, hc, hn, hn2, hp⟩ := hP
  walk_at "d0"
  refine gs_mid (fun μ' ρ' => Deck a g c μ' ∧ But a g μ μ' ∧ ρ' = [some (.at a), some (.int n), none, none]) ?_ ?_
  · obtain ⟨gs, o, m, k, d⟩ := D0
    have ha := d.ha
    walk_at "dx"
    refine ifD (fun h0 => ?_) (fun h0 => ?_)
    · walk_at "dx"
      refine evx_lst ?_
      walk_at "dx"
      refine opx_r (opx_neD ?_ ?_ ?_ ?_ ?_)
      · rw [see_at d.hg]; exact ints_plain gs
      · rw [see_at d.hg]; exact ints_shaped gs
      · rfl
      · rfl
      · have e : eqD (seeD μ (.at g)) (seeD μ (.lst [])) = gs.isEmpty := by
          rw [see_at d.hg]; exact eqD_nil gs
        rw [e]
        walk_at "dx"
        cases he : gs.isEmpty with
        | true =>
          refine ifNo rfl ?_
          walk_at "dx"
          exact ⟨⟨gs, o, m, k, d⟩, But.refl _ _ _, rfl⟩
        | false =>
          refine ifY rfl ?_
          have hne : gs ≠ [] := fun z => by rw [z] at he; cases he
          obtain ⟨x, hx, hx2, hx3⟩ := getLast_map hne
          walk_at "dx"
          refine evx_pop ?_
          walk_at "dx"
          refine ⟨g, _, _, rfl, d.hg, hx2, ?_⟩
          refine tgx_subA (a := a) (k := 1) (j := 1) (by rw [mput_ne d.ne]; exact ha) rfl ?_ (fun Ψ q => by walk_at "dx"; exact q) (fun Ψ q => by walk_at "dx"; exact q)
          refine ⟨⟨gs.dropLast, x, m, k, d.ne, mput_same, by rw [mput_ne (Ne.symm d.ne), mput_same, hx3], fun y hy => d.gs y ((List.dropLast_sublist gs).subset hy), (d.gs x hx).1, (d.gs x hx).2, d.m0, d.m1, d.k0, d.k1⟩, But.put2.trans But.put1, rfl⟩
    · refine ifNo rfl ?_
      walk_at "dx"
      exact ⟨⟨gs, o, m, k, d⟩, But.refl _ _ _, rfl⟩
  · rintro μ1 ρ1 ⟨⟨gs, o, m, k, d⟩, hb, rfl⟩
    have ha := d.ha
    have hn0 : n ≠ 0 := by omega
    have hdv : CDivB o n := ⟨hn0, hn2⟩
    walk_at "dx"
    refine ifD (fun h0 => ?_) (fun h0 => ?_)
    · walk_at "dx"
      have f1 := fmod_nn (x := o) hn
      have f2 := fdiv_nn hn d.o0 d.o1
      refine tgx_subA (a := a) (k := 1) (j := 1) ha rfl ?_ (fun Ψ q => by walk_at "dx"; exact q) (fun Ψ q => by walk_at "dx"; exact q)
      walk_at "dx"
      refine hp _ _ f1.1 f1.2 ⟨gs, _, m, k, d.ne, mput_same, by rw [mput_ne (Ne.symm d.ne)]; exact d.hg, d.gs, f2.1, f2.2, d.m0, d.m1, d.k0, by have := d.k1; omega⟩ (hb.trans But.put1)
    · walk_at "dx"
      refine tgx_subA (a := a) (k := 3) (j := 3) ha rfl ?_ (fun Ψ q => by walk_at "dx"; exact q) (fun Ψ q => by walk_at "dx"; exact q)
      have hk1 : k + 1 ≤ 1000001 := by have := d.k1; omega
      have hk0 := d.k0
      have hm0 := d.m0
      have hm1 := d.m1
      have e1 : (7907 * (k + 1)).natAbs < 2 ^ 64 := by omega
      have e2 : (k + 1).natAbs < 2 ^ 64 := by omega
      have c1 : CMulB 7907 (k + 1) := ⟨64, 64, by decide, e2, by decide⟩
      have c2 : CMulB (7907 * (k + 1)) (k + 1) := ⟨64, 64, e1, e2, by decide⟩
      have q0 : 0 ≤ 7907 * (k + 1) * (k + 1) := Int.mul_nonneg (by omega) (by omega)
      have q1 : 7907 * (k + 1) * (k + 1) ≤ 7907 * 1000001 * 1000001 := Int.mul_le_mul (by omega) (by omega) (by omega) (by omega)
      have c3 : CPowB (m + 7907 * (k + 1) * (k + 1)) 2 := ⟨by decide, 64, by omega, by decide⟩
      walk_at "dx"
      generalize ((m + 7907 * (k + 1) * (k + 1)) ^ (2 : Int).toNat) = z
      have f1 := fmod_nn (x := z) (n := 1000000000000000000000007) (by decide)
      generalize z.fmod 1000000000000000000000007 = t at f1 ⊢
      have c4 : CMulB t (t + 41) := ⟨100, 100, by omega, by omega, by decide⟩
      walk_at "dx"
      generalize t * (t + 41) = u
      have f2 := fmod_nn (x := u) (n := 1000000000000000000117) (by decide)
      generalize u.fmod 1000000000000000000117 = v at f2 ⊢
      have c5 : CDivB v 1009 := ⟨by decide, by decide⟩
      walk_at "dx"
      have f3 := fmod_nn (x := v.fdiv 1009) hn
      refine hp _ _ f3.1 f3.2 ⟨gs, o, m, k + 1, d.ne, mput_same, by rw [mput_ne (Ne.symm d.ne)]; exact d.hg, d.gs, d.o0, d.o1, d.m0, d.m1, by omega, by have := d.k1; omega⟩ (hb.trans But.put1)
end
theorem small_lt {n : Int} (h0 : 0 ≤ n) (h : n ≤ 10 ^ 31) : n.natAbs < 2 ^ 9000 := by
  have h1 : n.natAbs < 2 ^ 128 := by omega
  exact Nat.lt_of_lt_of_le h1 (Nat.pow_le_pow_right (by decide) (by decide))
theorem p10_9 : (10 : Int) ^ (9 : Int).toNat = 1000000000 := by decide
theorem p10_15 : (10 : Int) ^ (15 : Int).toNat = 1000000000000000 := by decide
theorem p10_14 : (10 : Int) ^ (14 : Int).toNat = 100000000000000 := by decide
theorem cp10 {n : Int} (h0 : 0 ≤ n) (h : n ≤ 100) : CPowB 10 n := ⟨h0, 4, by decide, by omega⟩
/-- an item of a written list at a drawn place -/
theorem pick4 {x : Int} (h0 : 0 ≤ x) (h1 : x < 4) (a b c d : D) : atI [a, b, c, d] x = some (if x = 0 then a else if x = 1 then b else if x = 2 then c else d) := by
  have : x = 0 ∨ x = 1 ∨ x = 2 ∨ x = 3 := by omega
  rcases this with rfl | rfl | rfl | rfl <;> rfl
theorem pick2 {x : Int} (h0 : 0 ≤ x) (h1 : x < 2) (a b : D) : atI [a, b] x = some (if x = 0 then a else b) := by
  have : x = 0 ∨ x = 1 := by omega
  rcases this with rfl | rfl <;> rfl
theorem pick3 {x : Int} (h0 : 0 ≤ x) (h1 : x < 3) (a b c : D) : atI [a, b, c] x = some (if x = 0 then a else if x = 1 then b else c) := by
  have : x = 0 ∨ x = 1 ∨ x = 2 := by omega
  rcases this with rfl | rfl | rfl <;> rfl
theorem mul_in {x y a b : Int} (hx : -a < x ∧ x < a) (hy : -b < y ∧ y < b) : -(a * b) < x * y ∧ x * y < a * b := by
  have h1 : x.natAbs < a.natAbs := by omega
  have h2 : y.natAbs < b.natAbs := by omega
  have h3 : (x * y).natAbs < (a * b).natAbs := by
    rw [Int.natAbs_mul, Int.natAbs_mul]
    exact Nat.mul_lt_mul'' h1 h2
  have h4 : 0 < a * b := Int.mul_pos (by omega) (by omega)
  omega
def P_text : PD := fun μ ds post _ => ∃ (a g : Addr) (c : Int), ds = [.at a] ∧ Deck a g c μ ∧ c ≤ 900000 ∧ ∀ μ' z, Deck a g (c + 7) μ' → Keep a g μ μ' → post μ' (.str z)
def vmax (n : Nat) : Int := 30 * 5 ^ n
theorem vmax_succ (n : Nat) : vmax (n + 1) = 5 * vmax n := by unfold vmax; rw [Int.pow_succ]; omega
theorem vmax_pos (n : Nat) : 30 ≤ vmax n := by
  induction n with
  | zero => decide
  | succ n ih => rw [vmax_succ]; omega
/-- a drawn value -/
def P_val : Nat → PD
  | 0 => fun _ _ _ _ => False
  | n + 1 => fun μ ds post _ => ∃ (a g : Addr) (c : Int), ds = [.at a, .int n] ∧ Deck a g c μ ∧ c + vmax n ≤ 900000 ∧ ∀ μ' d, LiveV a g 5 (3 * n + 3) μ μ' d → Deck a g (c + vmax n) μ' → Keep a g μ μ' → post μ' d
theorem sum_len1' : ∀ ws : List Nat, ((ws.map sg).map (·.length)).sum = ws.length := sum_len1
section
variable {P : Program} {w : World} {K : PySem.W.Frag} {mg : Str → Option Value} {base : Heap}
theorem c_text (h : Std K mg "_law_text" s__law_text) (n_range : mg "range" = none) (n_len : mg "len" = none) (C__law_draw : Cal P w K mg base CX0 1 "_law_draw" s__law_draw ["_law_deck_here", "_law_limit"] (spD K 2 P_draw)) : Cal P w K mg base CX0 2 "_law_text" s__law_text ["_law_deck_here"] (spD K 1 P_text) := by
  refine cal0 h sc__law_text (fun _ _ _ _ _ _ us hl => match us, hl with | [_], _ => rfl) fun f cdv A outer s H E hr => ⟨_,
    have hu64 := hr.units; (pss_cons (ps_set (i := 1) sc__law_text.nd rfl (Or.inr rfl) pe_str)
 (pss_one (ps_ret (pe_join pe_str (pe_lc (own := [("_law_k", 2)]) rfl sc__law_text.nd (pi_range1 rfl n_range (pa_cons (pe_c C__law_draw hr (by first | decide | omega) (pa_cons (pv 0) (pa_cons pe_int pa_nil))) pa_nil)) (blkOk_by (own := [("_law_k", 2)]) (N := ["_law_deck_here", "_law_letters", "_law_k"]) (sc := defScope s__law_text) (by decide +kernel)) (fun _ _ _ _ _ => pg_via (g := (gName 2)) (pg_name (i := 2) sc__law_text.nd rfl (Or.inl rfl)) (by (try dsimp only [Cx.blk, Cx.nox, Cx.tr]) <;> exact rfl)) (fun _ _ _ _ _ => pts_via pts_nil (by (try dsimp only [Cx.blk, Cx.nox, Cx.tr]) <;> exact rfl)) (fun _ _ _ _ _ => pe_via (pe_ix ix_seq (pv 1) (pe_c C__law_draw hr (by first | decide | omega) (pa_cons (pv 0) (pa_cons (pe_callB call_len (by rfl) n_len (by decide +kernel) (pa_cons (pv 1) pa_nil)) pa_nil))) (fun _ _ => rfl)) (by (try dsimp only [Cx.blk, Cx.nox, Cx.tr]) <;> exact rfl))))))), fun μ ds post exc hl hP => ?_⟩
  obtain ⟨a, g, c, rfl, D0, hc, hp⟩ := hP
  have S := deck_src a g
  walk_at "d0"
  walk_at "dx"
  refine evx_join ?_
  walk_at "dx"
  refine evx_lcSk (Deck a g) S (itx_range1 ?_)
  walk_at "dx"
  refine ⟨a, g, c, 7, rfl, D0, by omega, by decide, by decide, fun μ1 k hk0 hk1 D1 B1 => ?_⟩
  walk_at "dx"
  refine ⟨⟨by omega, by omega⟩, ⟨by rw [rangeD_len]; omega, fun _ => True.intro⟩, ?_⟩
  refine ⟨_, 1, fun i acc => ∃ ws : List Nat, acc = (ws.map sg).map D.str ∧ ws.length = i, D1, ⟨[], rfl, rfl⟩, ?_, ?_⟩
  · rintro i d μ' acc hd ha ⟨ws, rfl, r1⟩ D3 K3
    obtain ⟨hi2, rfl⟩ := rangeD_get hd
    refine tcx_name (by decide) ?_
    refine evb_yes ?_
    rw [if_pos rfl]
    refine ⟨Keep.refl _ _ _, ?_⟩
    walk_at "dx"
    refine cax_len (n := (Str.ofString " abcdefghijklmnopqrstuvwxyzABCXYZ0123456789-/.;()[]*+=~").length) ⟨by decide, rfl⟩ ?_
    walk_at "dx"
    refine ⟨a, g, _, _, rfl, D3, by omega, by decide, small_lt (by decide) (by decide), fun μ8 j hj0 hj1 D8 B8 => ?_⟩
    obtain ⟨ch, hch, hat2⟩ := pick_anyB (ds := (Str.ofString " abcdefghijklmnopqrstuvwxyzABCXYZ0123456789-/.;()[]*+=~").cps.toList) hj0 hj1
    refine opx_ixS (by decide) hat2 ?_
    exact ⟨B8.keep, D8.mono (by omega), ws ++ [ch], by rw [List.map_append, List.map_append]; rfl, by rw [List.length_append, r1]; rfl⟩
  rintro μ3 acc hl ⟨ws, rfl, r1⟩ D3 K3
  rw [rangeD_len] at r1 D3
  refine ⟨_, _, isL_lst, ?_, ?_⟩
  · rw [sum_len1]
    show ws.length + (ws.map sg).length * 0 ≤ _
    omega
  exact hp _ _ (D3.mono (by omega)) (B1.keep.trans K3)
end
theorem alE_keys (n : Nat) (ks : List Key) : alE (n + 1) (.lst (ks.map keyD)) = true := by
  rw [alE_lst, List.all_eq_true]
  intro d hd
  obtain ⟨k, _, rfl⟩ := List.mem_map.mp hd
  exact alE_key n k
section
variable {P : Program} {w : World} {K : PySem.W.Frag} {mg : Str → Option Value} {base : Heap}
theorem c_alikeE (h : Std K mg "_law_alike" s__law_alike) (n_isinstance : mg "isinstance" = none) (n_list : mg "list" = none) (n_dict : mg "dict" = none) (n_tuple : mg "tuple" = none) (n_len : mg "len" = none) (n_zip : mg "zip" = none) (n_str : mg "str" = none) (n_bool : mg "bool" = none) (n_int : mg "int" = none) :
    ∀ n, Cal P w K mg base CX0 n "_law_alike" s__law_alike ["_law_found", "_law_due"] (spD K 2 (P_alikeE n))
  | 0 => cal_false (n := 2) h (fun _ _ _ _ _ _ us hl => match us, hl with | [_, _], _ => rfl)
  | n + 1 => by
    have C__law_alike := c_alikeE h n_isinstance n_list n_dict n_tuple n_len n_zip n_str n_bool n_int n
    refine cal0 h sc__law_alike (fun _ _ _ _ _ _ us hl => match us, hl with | [_, _], _ => rfl) fun f cdv A outer s H E hr => ⟨_,
      have hu64 := hr.units; (pss_cons (ps_if (pt_cmp (pc_isN (pv 1)))
 (pss_one (ps_ret (pe_cmp (pc_isN (pv 0)) rfl)))
 pss_nil)
 (pss_cons (ps_if (pt_val (pe_callB call_isU (by rfl) n_isinstance (by decide +kernel) (pa_cons (pv 1) (pa_cons (pe_bltn (v := .ty "dict") (by rfl) n_dict (by decide +kernel) rfl) pa_nil))))
 (pss_cons (ps_if (pt_not (pt_val (pe_callB call_isU (by rfl) n_isinstance (by decide +kernel) (pa_cons (pv 0) (pa_cons (pe_bltn (v := .ty "dict") (by rfl) n_dict (by decide +kernel) rfl) pa_nil)))))
 (pss_one (ps_ret pe_bl))
 pss_nil)
 (pss_one (ps_ret (pe_and (pe_c C__law_alike hr (by first | decide | omega) (pa_cons (pe_listK (pe_callTy (call_listK rfl) (by rfl) n_list (by decide +kernel) (pa_cons (pe_vkeys (pv 0)) pa_nil))) (pa_cons (pe_listK (pe_callTy (call_listK rfl) (by rfl) n_list (by decide +kernel) (pa_cons (pe_vkeys (pv 1)) pa_nil))) pa_nil))) (pe_one (pe_c C__law_alike hr (by first | decide | omega) (pa_cons (pe_listVs (pe_callTy (call_listVs rfl) (by rfl) n_list (by decide +kernel) (pa_cons (pe_vvals (pv 0)) pa_nil))) (pa_cons (pe_listVs (pe_callTy (call_listVs rfl) (by rfl) n_list (by decide +kernel) (pa_cons (pe_vvals (pv 1)) pa_nil))) pa_nil))))))))
 pss_nil)
 (pss_cons (ps_if (pt_val (pe_callB call_isU (by rfl) n_isinstance (by decide +kernel) (pa_cons (pv 1) (pa_cons (pe_tup (pa_cons (pe_bltn (v := .ty "list") (by rfl) n_list (by decide +kernel) rfl) (pa_cons (pe_bltn (v := .ty "tuple") (by rfl) n_tuple (by decide +kernel) rfl) pa_nil))) pa_nil))))
 (pss_cons (ps_if (PW.pt (pw_or (pt_not (pt_val (pe_callB call_isU (by rfl) n_isinstance (by decide +kernel) (pa_cons (pv 0) (pa_cons (pe_tup (pa_cons (pe_bltn (v := .ty "list") (by rfl) n_list (by decide +kernel) rfl) (pa_cons (pe_bltn (v := .ty "tuple") (by rfl) n_tuple (by decide +kernel) rfl) pa_nil))) pa_nil))))) (pw_or1 (pt_cmpR (op_neU hu64) (pe_callB call_isU (by rfl) n_isinstance (by decide +kernel) (pa_cons (pv 0) (pa_cons (pe_bltn (v := .ty "list") (by rfl) n_list (by decide +kernel) rfl) pa_nil))) (pe_callB call_isU (by rfl) n_isinstance (by decide +kernel) (pa_cons (pv 1) (pa_cons (pe_bltn (v := .ty "list") (by rfl) n_list (by decide +kernel) rfl) pa_nil))) (nomark _)))))
 (pss_one (ps_ret pe_bl))
 pss_nil)
 (pss_cons (ps_if (pt_cmpR (op_neU hu64) (pe_callB call_len (by rfl) n_len (by decide +kernel) (pa_cons (pv 0) pa_nil)) (pe_callB call_len (by rfl) n_len (by decide +kernel) (pa_cons (pv 1) pa_nil)) (nomark _))
 (pss_one (ps_ret pe_bl))
 pss_nil)
 (pss_cons (ps_for PassesOwn.never rfl (pi_zipA (by rfl) n_zip (pa_cons (pv 0) (pa_cons (pv 1) pa_nil))) (pg_tup rfl (pgs_cons (pg_name (i := 2) sc__law_alike.nd rfl (Or.inl rfl)) (pgs_cons (pg_name (i := 3) sc__law_alike.nd rfl (Or.inl rfl)) pgs_nil)))
 (pss_one (ps_if (pt_not (pt_val (pe_c C__law_alike hr (by first | decide | omega) (pa_cons (pv 2) (pa_cons (pv 3) pa_nil)))))
 (pss_one (ps_ret pe_bl))
 pss_nil)))
 (pss_one (ps_ret pe_bl)))))
 pss_nil)
 (pss_cons (ps_if (pt_val (pe_callB call_isU (by rfl) n_isinstance (by decide +kernel) (pa_cons (pv 1) (pa_cons (pe_bltn (v := .ty "str") (by rfl) n_str (by decide +kernel) rfl) pa_nil))))
 (pss_one (ps_ret (pe_and (pe_callB call_isU (by rfl) n_isinstance (by decide +kernel) (pa_cons (pv 0) (pa_cons (pe_bltn (v := .ty "str") (by rfl) n_str (by decide +kernel) rfl) pa_nil))) (pe_one (pe_cmpR (op_eqU hu64) (pv 0) (pv 1) (nomark _))))))
 pss_nil)
 (pss_cons (ps_if (pt_cmpR (op_neU hu64) (pe_callB call_isU (by rfl) n_isinstance (by decide +kernel) (pa_cons (pv 0) (pa_cons (pe_bltn (v := .ty "bool") (by rfl) n_bool (by decide +kernel) rfl) pa_nil))) (pe_callB call_isU (by rfl) n_isinstance (by decide +kernel) (pa_cons (pv 1) (pa_cons (pe_bltn (v := .ty "bool") (by rfl) n_bool (by decide +kernel) rfl) pa_nil))) (nomark _))
 (pss_one (ps_ret pe_bl))
 pss_nil)
 (pss_one (ps_ret (pe_and (pe_callB call_isU (by rfl) n_isinstance (by decide +kernel) (pa_cons (pv 0) (pa_cons (pe_bltn (v := .ty "int") (by rfl) n_int (by decide +kernel) rfl) pa_nil))) (pe_one (pe_cmpR (op_eqU hu64) (pv 0) (pv 1) (nomark _))))))))))), fun μ ds post exc hl hP => ?_⟩
    obtain ⟨d, rfl, had, hp⟩ := hP
    walk_at "d0"
    cases d
    case non =>
      walk_at "dz"
      exact hp
    case bl b =>
      walk_at "dz"
      rw [decide_eq_true rfl]
      exact hp
    case int i =>
      walk_at "dz"
      rw [decide_eq_true rfl]
      exact hp
    case str z =>
      walk_at "dz"
      rw [decide_eq_true rfl]
      exact hp
    case tup ds =>
      cases n with
      | zero => cases had
      | succ m =>
        rw [alE_tup] at had
        walk_at "dz"
        refine ifN (fun z => absurd rfl z) (fun _ => ?_)
        walk_at "dz"
        refine gs_for (itx_zip ?_)
        walk_at "dx"
        refine ⟨_, _, _, _, rfl, .inr ⟨rfl, rfl⟩, ?_⟩
        refine ⟨fun i μ' ρ' => μ' = μ ∧ ∃ u v, ρ' = [some (.tup ds), some (.tup ds), u, v], ⟨rfl, none, none, rfl⟩, fun _ _ _ _ _ => True.intro, ?_, ?_⟩
        · rintro i d μ' ρ' hd ⟨rfl, u, v, rfl⟩
          obtain ⟨x, hx, rfl⟩ := pairs_same hd
          walk_at "dx"
          refine ⟨x, rfl, List.all_eq_true.mp had x hx, ?_⟩
          walk_at "dz"
          exact ⟨_, _, rfl⟩
        · rintro μ' ρ' ⟨rfl, u, v, rfl⟩
          walk_at "dz"
          exact hp
    case lst ds =>
      cases n with
      | zero => cases had
      | succ m =>
        rw [alE_lst] at had
        walk_at "dz"
        refine ifN (fun z => absurd rfl z) (fun _ => ?_)
        walk_at "dz"
        refine gs_for (itx_zip ?_)
        walk_at "dx"
        refine ⟨_, _, _, _, rfl, .inl ⟨_, _, isL_lst, isL_lst, fun _ => True.intro, fun _ => True.intro⟩, ?_⟩
        refine ⟨fun i μ' ρ' => μ' = μ ∧ ∃ u v, ρ' = [some (.lst ds), some (.lst ds), u, v], ⟨rfl, none, none, rfl⟩, fun _ _ _ _ _ => True.intro, ?_, ?_⟩
        · rintro i d μ' ρ' hd ⟨rfl, u, v, rfl⟩
          obtain ⟨x, hx, rfl⟩ := pairs_same hd
          walk_at "dx"
          refine ⟨x, rfl, List.all_eq_true.mp had x hx, ?_⟩
          walk_at "dz"
          exact ⟨_, _, rfl⟩
        · rintro μ' ρ' ⟨rfl, u, v, rfl⟩
          walk_at "dz"
          exact hp
    case dct ks ds =>
      match n, had, C__law_alike with
      | 0, had, _ => cases had
      | 1, had, _ => cases had
      | m + 2, had, C__law_alike =>
        rw [alE_dct] at had
        walk_at "dz"
        refine evx_listK ?_
        walk_at "dx"
        refine ⟨ks, ds, .inl rfl, ?_⟩
        walk_at "dx"
        refine evx_listK ?_
        walk_at "dx"
        refine ⟨ks, ds, .inl rfl, ?_⟩
        walk_at "dx"
        refine ⟨_, rfl, alE_keys m ks, ?_⟩
        walk_at "dz"
        refine evx_listVs ?_
        walk_at "dx"
        refine ⟨ks, ds, .inl rfl, ?_⟩
        walk_at "dx"
        refine evx_listVs ?_
        walk_at "dx"
        refine ⟨ks, ds, .inl rfl, ?_⟩
        walk_at "dx"
        refine ⟨_, rfl, by rw [alE_lst]; exact had, ?_⟩
        exact hp
    all_goals (cases n with | zero => cases had | succ n => cases n <;> cases had)
end
theorem mem_putDs {ks : List Key} {ds : List D} {k : Key} {d e : D} (h : e ∈ putDs ks ds k d) : e ∈ ds ∨ e = d := by
  unfold putDs at h
  by_cases hk : k ∈ ks
  · rw [if_pos hk] at h
    obtain ⟨q, hq, rfl⟩ := List.mem_map.mp h
    by_cases hq1 : q.1 = k
    · rw [if_pos hq1]; exact .inr rfl
    · rw [if_neg hq1]; exact .inl (List.of_mem_zip hq).2
  · rw [if_neg hk] at h
    rcases List.mem_append.mp h with h | h
    · exact .inl h
    · exact .inr (List.mem_singleton.mp h)
theorem putKs_len {ks : List Key} {k : Key} : (putKs ks k).length ≤ ks.length + 1 := by
  unfold putKs
  split
  · omega
  · rw [List.length_append]; exact Nat.le_refl _
theorem p10_30 : (10 : Int) ^ (30 : Int).toNat = 1000000000000000000000000000000 := by decide
section
variable {P : Program} {w : World} {K : PySem.W.Frag} {mg : Str → Option Value} {base : Heap}
theorem c_val (h : Std K mg "_law_value" s__law_value) (n_range : mg "range" = none) (n_len : mg "len" = none) (n_tuple : mg "tuple" = none) (C__law_draw : Cal P w K mg base CX0 1 "_law_draw" s__law_draw ["_law_deck_here", "_law_limit"] (spD K 2 P_draw)) (C__law_text : Cal P w K mg base CX0 2 "_law_text" s__law_text ["_law_deck_here"] (spD K 1 P_text)) :
    ∀ n, Cal P w K mg base CX0 (n+3) "_law_value" s__law_value ["_law_deck_here", "_law_depth"] (spD K 2 (P_val n))
  | 0 => (cal_false (n := 2) h (fun _ _ _ _ _ _ us hl => match us, hl with | [_, _], _ => rfl)).mono (by omega)
  | n + 1 => by
    have C__law_value := c_val h n_range n_len n_tuple C__law_draw C__law_text n
    refine cal0 h sc__law_value (fun _ _ _ _ _ _ us hl => match us, hl with | [_, _], _ => rfl) fun f cdv A outer s H E hr => ⟨_,
      have hu64 := hr.units; have hu := hu_of hr; (pss_cons (ps_set (i := 2) sc__law_value.nd rfl (Or.inl rfl) (pe_c C__law_draw hr (by first | decide | omega) (pa_cons (pv 0) (pa_cons pe_int pa_nil))))
 (pss_cons (ps_if (pt_cmpR (op_eqU hu64) (pv 2) pe_int (nomark _))
 (pss_one (ps_ret pe_non))
 pss_nil)
 (pss_cons (ps_if (pt_cmpR (op_eqU hu64) (pv 2) pe_int (nomark _))
 (pss_one (ps_ret (pe_cmpR (op_eqU hu64) (pe_c C__law_draw hr (by first | decide | omega) (pa_cons (pv 0) (pa_cons pe_int pa_nil))) pe_int (nomark _))))
 pss_nil)
 (pss_cons (ps_if (pt_cmpR (op_eqU hu64) (pv 2) pe_int (nomark _))
 (pss_one (ps_ret (pe_op op_sub (pe_op op_mulU (pe_c C__law_draw hr (by first | decide | omega) (pa_cons (pv 0) (pa_cons (pe_op op_powB pe_int pe_int) pa_nil))) (pe_op op_powB pe_int pe_int)) (pe_c C__law_draw hr (by first | decide | omega) (pa_cons (pv 0) (pa_cons (pe_op op_powB pe_int pe_int) pa_nil))))))
 pss_nil)
 (pss_cons (ps_if (pt_cmpR (op_eqU hu64) (pv 2) pe_int (nomark _))
 (pss_one (ps_ret (pe_c C__law_text hr (by first | decide | omega) (pa_cons (pv 0) pa_nil))))
 pss_nil)
 (pss_cons (ps_if (pt_cmpR (op_eqU hu64) (pv 2) pe_int (nomark _))
 (pss_one (ps_ret (pe_tup (pa_cons (pe_op op_sub (pe_c C__law_draw hr (by first | decide | omega) (pa_cons (pv 0) (pa_cons pe_int pa_nil))) pe_int) (pa_cons (pe_c C__law_draw hr (by first | decide | omega) (pa_cons (pv 0) (pa_cons pe_int pa_nil))) pa_nil)))))
 pss_nil)
 (pss_cons (ps_if (PW.pt (pw_or (pt_cmpR (op_eqU hu64) (pv 1) pe_int (nomark _)) (pw_or1 (pt_cmpR (op_eqU hu64) (pv 2) pe_int (nomark _)))))
 (pss_one (ps_ret (pe_ix ix_seq (pe_lst (pa_cons pe_int (pa_cons pe_str (pa_cons (pe_lst pa_nil) (pa_cons (pe_tup pa_nil) (pa_cons pe_dnewK pa_nil)))))) (pe_c C__law_draw hr (by first | decide | omega) (pa_cons (pv 0) (pa_cons pe_int pa_nil))) (fun _ _ => rfl))))
 pss_nil)
 (pss_cons (ps_setLc (i := 4) (own := [("_law_k", 3)]) rfl sc__law_value.nd rfl rfl (sw_true rfl rfl rfl (by decide +kernel)) (pi_range1 rfl n_range (pa_cons (pe_c C__law_draw hr (by first | decide | omega) (pa_cons (pv 0) (pa_cons pe_int pa_nil))) pa_nil)) (blkOk_by (own := [("_law_k", 3)]) (N := ["_law_deck_here", "_law_depth", "_law_kind", "_law_k", "_law_found", "_law_table"]) (sc := defScope s__law_value) (by decide +kernel)) (fun _ _ _ _ _ => pg_via (g := (gName 3)) (pg_name (i := 3) sc__law_value.nd rfl (Or.inl rfl)) (by (try dsimp only [Cx.blk, Cx.nox, Cx.tr]) <;> exact rfl)) (fun _ _ _ _ _ => pts_via pts_nil (by (try dsimp only [Cx.blk, Cx.nox, Cx.tr]) <;> exact rfl)) (fun _ _ _ _ _ => pe_via (pe_c C__law_value hr (by first | decide | omega) (pa_cons (pv 0) (pa_cons (pe_op op_sub (pv 1) pe_int) pa_nil))) (by (try dsimp only [Cx.blk, Cx.nox, Cx.tr]) <;> exact rfl)))
 (pss_cons (ps_if (pt_cmpR (op_eqU hu64) (pv 2) pe_int (nomark _))
 (pss_one (ps_ret (pe_callTy call_tuple_of (by rfl) n_tuple (by decide +kernel) (pa_cons (pv 4) pa_nil))))
 pss_nil)
 (pss_cons (ps_if (pt_cmpR (op_eqU hu64) (pv 2) pe_int (nomark _))
 (pss_one (ps_ret (pv 4)))
 pss_nil)
 (pss_cons (ps_set (i := 5) sc__law_value.nd rfl (Or.inl rfl) pe_dnewK)
 (pss_cons (ps_for PassesOwn.never rfl (pi_range1 rfl n_range (pa_cons (pe_callB call_len (by rfl) n_len (by decide +kernel) (pa_cons (pv 4) pa_nil)) pa_nil)) (pg_name (i := 3) sc__law_value.nd rfl (Or.inl rfl))
 (pss_one (ps_dput hu (pv 5) (pe_c C__law_text hr (by first | decide | omega) (pa_cons (pv 0) pa_nil)) (pe_ix ix_seq (pv 4) (pv 3) (fun _ _ => rfl)) rfl)))
 (pss_one (ps_ret (pv 5))))))))))))))), fun μ ds post exc hl hP => ?_⟩
    obtain ⟨a, g, c, rfl, D0, hc, hp⟩ := hP
    have hv := vmax_pos n
    have S := deck_src a g
    have q15 := cp10 (n := 15) (by decide) (by decide)
    have q30 := cp10 (n := 30) (by decide) (by decide)
    have pure : ∀ μ' d T, Deck a g (c + 29) μ' → Keep a g μ μ' → alE (3 * n + 3) d = true → tyD d = some T → T ≠ "list" → T ≠ "dict" → post μ' d := fun μ' d T D1 K1 hd ht h1 h2 => hp μ' d (.inl ⟨hd, T, ht, h1, h2⟩) (D1.mono (by omega)) K1
    walk_at "d0"
    walk_at "dx"
    refine ⟨a, g, c, 9, rfl, D0, by omega, by decide, by decide, fun μ1 k hk0 hk1 D1 B1 => ?_⟩
    have K1 := B1.keep
    walk_at "dx"
    refine ifD (fun h0 => ?_) (fun h0 => ?_)
    · walk_at "dx"
      exact pure _ _ _ (D1.mono (by omega)) K1 (alE_scal _).1 rfl (by decide) (by decide)
    walk_at "dx"
    refine ifD (fun h1 => ?_) (fun h1 => ?_)
    · walk_at "dx"
      refine ⟨a, g, _, 2, rfl, D1, by omega, by decide, by decide, fun μ2 y hy0 hy1 D2 B2 => ?_⟩
      walk_at "dx"
      exact pure _ _ _ (D2.mono (by omega)) (K1.trans B2.keep) ((alE_scal _).2.1 _) rfl (by decide) (by decide)
    walk_at "dx"
    refine ifD (fun h2 => ?_) (fun h2 => ?_)
    · walk_at "dx"
      rw [p10_15]
      refine ⟨a, g, _, _, rfl, D1, by omega, by decide, small_lt (by decide) (by decide), fun μ2 y hy0 hy1 D2 B2 => ?_⟩
      have c1 : CMulB y 1000000000000000 := ⟨64, 64, by omega, by decide, by decide⟩
      walk_at "dx"
      rw [p10_15]
      walk_at "dx"
      rw [p10_30]
      refine ⟨a, g, _, _, rfl, D2, by omega, by decide, small_lt (by decide) (by decide), fun μ3 z hz0 hz1 D3 B3 => ?_⟩
      walk_at "dx"
      exact pure _ _ _ (D3.mono (by omega)) ((K1.trans B2.keep).trans B3.keep) ((alE_scal _).2.2.1 _) rfl (by decide) (by decide)
    walk_at "dx"
    refine ifD (fun h3 => ?_) (fun h3 => ?_)
    · walk_at "dx"
      refine ⟨a, g, _, rfl, D1, by omega, fun μ2 z D2 K2 => ?_⟩
      exact pure _ _ _ (D2.mono (by omega)) (K1.trans K2) ((alE_scal _).2.2.2 _) rfl (by decide) (by decide)
    walk_at "dx"
    refine ifD (fun h4 => ?_) (fun h4 => ?_)
    · walk_at "dx"
      refine ⟨a, g, _, 100, rfl, D1, by omega, by decide, by decide, fun μ2 y hy0 hy1 D2 B2 => ?_⟩
      walk_at "dx"
      refine ⟨a, g, _, 5, rfl, D2, by omega, by decide, by decide, fun μ3 z hz0 hz1 D3 B3 => ?_⟩
      walk_at "dx"
      exact pure _ _ _ (D3.mono (by omega)) ((K1.trans B2.keep).trans B3.keep) (by rw [alE_tup]; simp [(alE_scal (3 * n + 2)).2.2.1]) rfl (by decide) (by decide)
    have leaf : EvX K WN XN μ1 [some (.at a), some (.int n), some (.int k), none, none, none] (tOp (rIx K) (tLst (tCons (tC (V.int 0)) (tCons (tC (V.str (Str.ofString ""))) (tCons (tLst tNil) (tCons (tTup tNil) (tCons tDNewK tNil))))))
        (tCall (spD K 2 P_draw) [] E0 (tCons (tVar 0) (tCons (tC (V.int 5)) tNil)))) post := by
      refine evx_op (evx_lst ?_)
      walk_at "dx"
      refine evx_lstM ?_
      walk_at "dx"
      intro p hp0
      walk_at "dx"
      refine evx_dnewM fun q hq0 => ?_
      have hp1 := S.na D1 hp0
      have D2 := S.put (o := .lst []) D1 hp1.1 hp1.2
      have hq1 := S.na D2 hq0
      have D3 := S.put (o := .dct [] []) D2 hq1.1 hq1.2
      have hpm : μ p = none := by
        cases hm : μ p with
        | none => rfl
        | some o => rw [K1 p o hp1.1 hp1.2 hm] at hp0; exact nomatch hp0
      have hqp : q ≠ p := fun z => by rw [z, mput_same] at hq0; exact nomatch hq0
      have hqm : μ q = none := by
        cases hm : μ q with
        | none => rfl
        | some o => rw [mput_ne hqp, K1 q o hq1.1 hq1.2 hm] at hq0; exact nomatch hq0
      have K3 := (K1.new (o := .lst []) hpm).new (o := .dct [] []) hqm
      have e1 : mput (mput μ1 p (.lst [])) q (.dct [] []) p = some (.lst []) := by rw [mput_ne (Ne.symm hqp)]; exact mput_same
      have e2 : mput (mput μ1 p (.lst [])) q (.dct [] []) q = some (.dct [] []) := mput_same
      generalize mput (mput μ1 p (.lst [])) q (.dct [] []) = μ2 at D3 K3 e1 e2 ⊢
      walk_at "dx"
      refine ⟨a, g, _, 5, rfl, D3, by omega, by decide, by decide, fun μ4 y hy0 hy1 D4 B4 => ?_⟩
      have K4 := K3.trans B4.keep
      obtain ⟨d, hd, hat⟩ := pick_any (ds := [D.int 0, .str (Str.ofString ""), .at p, .tup [], .at q]) hy0 hy1
      refine opx_ix (x := .lst _) rfl hat ?_
      simp only [List.mem_cons, List.not_mem_nil, or_false] at hd
      rcases hd with rfl | rfl | rfl | rfl | rfl
      · exact pure _ _ _ (D4.mono (by omega)) K4 ((alE_scal _).2.2.1 _) rfl (by decide) (by decide)
      · exact pure _ _ _ (D4.mono (by omega)) K4 ((alE_scal _).2.2.2 _) rfl (by decide) (by decide)
      · exact hp _ _ (.inr (.inl ⟨p, [], rfl, (B4 p hp1.1 hp1.2).trans e1, by decide, hp1.1, hp1.2, hpm, fun _ h => nomatch h⟩)) (D4.mono (by omega)) K4
      · exact pure _ _ _ (D4.mono (by omega)) K4 (by rw [alE_tup]; rfl) rfl (by decide) (by decide)
      · exact hp _ _ (.inr (.inr ⟨q, [], [], rfl, (B4 q hq1.1 hq1.2).trans e2, by decide, hq1.1, hq1.2, hqm, fun _ h => nomatch h⟩)) (D4.mono (by omega)) K4
    walk_at "dx"
    refine ifD (fun h5 => ifY rfl (gs_ret leaf)) (fun h5 => ?_)
    walk_at "dx"
    refine ifD (fun h6 => gs_ret leaf) (fun h6 => ?_)
    clear leaf
    obtain ⟨m, hm⟩ : ∃ m, n = m + 1 := ⟨n - 1, by omega⟩
    subst hm
    have hvm := vmax_pos m
    have hvs := vmax_succ m
    walk_at "dx"
    refine evx_lcSkM (Deck a g) S (itx_range1 ?_)
    walk_at "dx"
    refine ⟨a, g, _, 4, rfl, D1, by omega, by decide, by decide, fun μ2 y hy0 hy1 D2 B2 => ?_⟩
    walk_at "dx"
    refine ⟨⟨by omega, by omega⟩, ⟨by rw [rangeD_len]; omega, fun _ => True.intro⟩, ?_⟩
    refine ⟨_, vmax m, fun i acc => acc.length = i ∧ ∀ e ∈ acc, alE (3 * m + 5) e = true, D2, ⟨rfl, fun _ h => nomatch h⟩, ?_, ?_⟩
    · rintro i d μ3 acc hd ha ⟨r1, r2⟩ D3 K3
      obtain ⟨hi, rfl⟩ := rangeD_get hd
      have hi3 : i < 3 := by omega
      have hvi : vmax m * i ≤ vmax m * 2 := Int.mul_le_mul_of_nonneg_left (by omega) (by omega)
      refine tcx_name (by decide) ?_
      refine evb_yes ?_
      rw [if_pos rfl]
      refine ⟨Keep.refl _ _ _, ?_⟩
      refine evx_less (Ψ := fun μ' d => LiveV a g 5 (3 * m + 3) μ3 μ' d ∧ Deck a g (c + 1 + 1 + vmax m * i + vmax m) μ' ∧ Keep a g μ3 μ') ?_ ?_
      · walk_at "dx"
        rw [show ((m + 1 : Nat) : Int) - 1 = (m : Int) by omega]
        exact ⟨a, g, _, rfl, D3, by omega, fun μ4 d h4 D4 K4 => ⟨h4, D4, K4⟩⟩
      · rintro μ4 d ⟨h4, D4, K4⟩
        obtain ⟨μ5, d', l1, l2, l3, ea, D5, K5⟩ := live_frz h4 D4 K4
        refine ⟨μ5, d', l1, l2, fun H v => l3 K H v, K5, D5.mono (by rw [Int.mul_add]; omega), by rw [List.length_append, r1]; rfl, fun e he => ?_⟩
        rcases List.mem_append.mp he with he | he
        · exact r2 e he
        · rw [List.mem_singleton.mp he]; exact ea
    rintro p μ3 acc hp0 hal e3 ⟨r1, r2⟩ D3 K3
    rw [rangeD_len] at r1 hal D3
    have hal3 : acc.length ≤ 3 := by omega
    have hvi : vmax m * (y.toNat : Int) ≤ vmax m * 3 := Int.mul_le_mul_of_nonneg_left (by omega) (by omega)
    have D3' : Deck a g (c + 2 + vmax m * 3) μ3 := D3.mono (by omega)
    have hp1 := S.na D2 hp0
    have K4 := (K1.trans B2.keep).trans K3
    have hpm : μ p = none := by
      cases hm : μ p with
      | none => rfl
      | some o => rw [(K1.trans B2.keep) p o hp1.1 hp1.2 hm] at hp0; exact nomatch hp0
    clear D3
    walk_at "dx"
    refine ifD (fun h7 => ?_) (fun h7 => ?_)
    · walk_at "dx"
      refine cax_tupleL (isL_at e3) ?_
      refine hp _ _ (.inl ⟨?_, "tuple", rfl, by decide, by decide⟩) (D3'.mono (by omega)) K4
      rw [show 3 * (m + 1) + 3 = (3 * m + 5) + 1 by omega, alE_tup, List.all_eq_true]
      exact r2
    walk_at "dx"
    refine ifD (fun h8 => ?_) (fun h8 => ?_)
    · walk_at "dx"
      exact hp _ _ (.inr (.inl ⟨p, acc, rfl, e3, by omega, hp1.1, hp1.2, hpm, fun e he => alE_mono (r2 e he) (by omega)⟩)) (D3'.mono (by omega)) K4
    walk_at "dx"
    refine evx_dnewM fun q hq0 => ?_
    have hq1 := S.na D3' hq0
    have hqp : q ≠ p := fun z => by rw [z, e3] at hq0; exact nomatch hq0
    have hqm : μ q = none := by
      cases hm : μ q with
      | none => rfl
      | some o => rw [K4 q o hq1.1 hq1.2 hm] at hq0; exact nomatch hq0
    have D5 := S.put (o := .dct [] []) D3' hq1.1 hq1.2
    have K5 := K4.new (o := .dct [] []) hqm
    have e4 : mput μ3 q (.dct [] []) p = some (.lst acc) := by rw [mput_ne (Ne.symm hqp)]; exact e3
    have e5 : mput μ3 q (.dct [] []) q = some (.dct [] []) := mput_same
    generalize mput μ3 q (.dct [] []) = μ4 at D5 K5 e4 e5 ⊢
    walk_at "dx"
    refine gs_for (itx_range1 ?_)
    walk_at "dx"
    refine cax_len (n := acc.length) ⟨_, e4, rfl⟩ ?_
    walk_at "dx"
    refine ⟨⟨by omega, by omega⟩, ?_⟩
    refine ⟨fun i μ' ρ' => ∃ (ks : List Key) (es : List D) (u3 : Option D), ρ' = [some (.at a), some (.int ((m + 1 : Nat) : Int)), some (.int k), u3, some (.at p), some (.at q)] ∧ μ' p = some (.lst acc) ∧ μ' q = some (.dct ks es) ∧ ks.length ≤ i ∧ (∀ e ∈ es, alE (3 * m + 5) e = true) ∧ Deck a g (c + 2 + vmax m * 3 + 7 * i) μ' ∧ Keep a g μ μ',
      ⟨[], [], _, rfl, e4, e5, Nat.le_refl _, (fun _ h => nomatch h), D5.mono (by omega), K5⟩, fun _ _ _ _ _ => True.intro, ?_, ?_⟩
    · rintro i d μ5 ρ5 hd ⟨ks, es, u3, rfl, s1, s2, s3, s4, D6, K6⟩
      obtain ⟨hi, rfl⟩ := rangeD_get hd
      have hia : i < acc.length := by omega
      have hat : atI acc (0 + (i : Int)) = some acc[i] := by rw [Int.zero_add]; exact atI_pos (List.getElem?_eq_getElem hia)
      walk_at "dx"
      refine gs_dput ?_
      walk_at "dx"
      refine ⟨a, g, _, rfl, D6, by omega, fun μ6 z D7 K7 => ?_⟩
      refine ⟨q, ks, es, .inr z, rfl, rfl, K7 q _ hq1.1 hq1.2 s2, by omega, ?_⟩
      refine ⟨_, _, _, rfl, by rw [mput_ne (Ne.symm hqp)]; exact K7 p _ hp1.1 hp1.2 s1, mput_same, Nat.le_trans putKs_len (by omega), fun e he => ?_, S.mono (S.put D7 hq1.1 hq1.2) (by rw [Int.natCast_add]; omega), (K6.trans K7).new hqm⟩
      rcases mem_putDs he with he | rfl
      · exact s4 e he
      · exact r2 _ (List.getElem_mem hia)
    rintro μ5 ρ5 ⟨ks, es, u3, rfl, s1, s2, s3, s4, D6, K6⟩
    rw [rangeD_len] at s3 D6
    walk_at "dx"
    exact hp _ _ (.inr (.inr ⟨q, ks, es, rfl, s2, by omega, hq1.1, hq1.2, hqm, fun e he => alE_mono (s4 e he) (by omega)⟩)) (D6.mono (by omega)) K6
end
/-- the classes in their order -/
def clsL (L : List Addr) (k : Nat) : Addr := L.getD k 0
def errsD (cl : Nat → Addr) (d : Nat → D) : List D := (List.range 17).map fun k => .exc (cl k) (d k)
def P_made (cl : Nat → Addr) : PD := fun μ ds post _ => ∃ (hp : Addr) (d : Nat → D), ds = [.at hp] ∧ μ hp = some (.lst ((List.range 17).map d)) ∧ post μ (.lst (errsD cl d))
def P_kinds (cl : Nat → Addr) : PD := fun μ ds post _ => ∃ (k : Nat) (d : D), ds = [.exc (cl k) d] ∧ k < 17 ∧ post μ (.lst ((List.range 16).map fun j => .bl (decide (k = j + 1))))
theorem range17 (d : Nat → D) : (List.range 17).map d = [d 0, d 1, d 2, d 3, d 4, d 5, d 6, d 7, d 8, d 9, d 10, d 11, d 12, d 13, d 14, d 15, d 16] := rfl
theorem range16 (b : Nat → Bool) : ((List.range 16).map fun j => D.bl (b j)) = [.bl (b 0), .bl (b 1), .bl (b 2), .bl (b 3), .bl (b 4), .bl (b 5), .bl (b 6), .bl (b 7), .bl (b 8), .bl (b 9), .bl (b 10), .bl (b 11), .bl (b 12), .bl (b 13), .bl (b 14), .bl (b 15)] := rfl
section
variable {P : Program} {w : World} {K : PySem.W.Frag} {mg : Str → Option Value} {base : Heap} {fI A_WorthError A_InvalidNumber A_InvalidSigns A_UnknownSign A_InvalidMachine A_UnlikeSigns A_Endless A_InvalidPattern A_InvalidBook A_InvalidName A_DoubleName A_UnknownName A_InvalidNote A_InvalidSource A_NoChance A_NothingToUndo A_Unreadable : Addr}
theorem c_made (h : Std K mg "_law_made" s__law_made) (X_WorthError : ExcD K mg "WorthError" A_WorthError fI) (X_InvalidNumber : ExcD K mg "InvalidNumber" A_InvalidNumber fI) (X_InvalidSigns : ExcD K mg "InvalidSigns" A_InvalidSigns fI) (X_UnknownSign : ExcD K mg "UnknownSign" A_UnknownSign fI) (X_InvalidMachine : ExcD K mg "InvalidMachine" A_InvalidMachine fI) (X_UnlikeSigns : ExcD K mg "UnlikeSigns" A_UnlikeSigns fI) (X_Endless : ExcD K mg "Endless" A_Endless fI) (X_InvalidPattern : ExcD K mg "InvalidPattern" A_InvalidPattern fI) (X_InvalidBook : ExcD K mg "InvalidBook" A_InvalidBook fI) (X_InvalidName : ExcD K mg "InvalidName" A_InvalidName fI) (X_DoubleName : ExcD K mg "DoubleName" A_DoubleName fI) (X_UnknownName : ExcD K mg "UnknownName" A_UnknownName fI) (X_InvalidNote : ExcD K mg "InvalidNote" A_InvalidNote fI) (X_InvalidSource : ExcD K mg "InvalidSource" A_InvalidSource fI) (X_NoChance : ExcD K mg "NoChance" A_NoChance fI) (X_NothingToUndo : ExcD K mg "NothingToUndo" A_NothingToUndo fI) (X_Unreadable : ExcD K mg "Unreadable" A_Unreadable fI) (G_init : IniD P w K mg base fI) : Cal P w K mg base CX0 3 "_law_made" s__law_made ["_law_held"] (spD K 1 (P_made (clsL [A_WorthError, A_InvalidNumber, A_InvalidSigns, A_UnknownSign, A_InvalidMachine, A_UnlikeSigns, A_Endless, A_InvalidPattern, A_InvalidBook, A_InvalidName, A_DoubleName, A_UnknownName, A_InvalidNote, A_InvalidSource, A_NoChance, A_NothingToUndo, A_Unreadable]))) := by
  refine cal0 h sc__law_made (fun _ _ _ _ _ _ us hl => match us, hl with | [_], _ => rfl) fun f cdv A outer s H E hr => ⟨_,
    have hu64 := hr.units; (pss_one (ps_ret (pe_lst (pa_cons (pe_mkX X_WorthError G_init hr (by decide) (pa_cons (pe_ix ix_seq (pv 0) pe_int (fun _ _ => rfl)) pa_nil)) (pa_cons (pe_mkX X_InvalidNumber G_init hr (by decide) (pa_cons (pe_ix ix_seq (pv 0) pe_int (fun _ _ => rfl)) pa_nil)) (pa_cons (pe_mkX X_InvalidSigns G_init hr (by decide) (pa_cons (pe_ix ix_seq (pv 0) pe_int (fun _ _ => rfl)) pa_nil)) (pa_cons (pe_mkX X_UnknownSign G_init hr (by decide) (pa_cons (pe_ix ix_seq (pv 0) pe_int (fun _ _ => rfl)) pa_nil)) (pa_cons (pe_mkX X_InvalidMachine G_init hr (by decide) (pa_cons (pe_ix ix_seq (pv 0) pe_int (fun _ _ => rfl)) pa_nil)) (pa_cons (pe_mkX X_UnlikeSigns G_init hr (by decide) (pa_cons (pe_ix ix_seq (pv 0) pe_int (fun _ _ => rfl)) pa_nil)) (pa_cons (pe_mkX X_Endless G_init hr (by decide) (pa_cons (pe_ix ix_seq (pv 0) pe_int (fun _ _ => rfl)) pa_nil)) (pa_cons (pe_mkX X_InvalidPattern G_init hr (by decide) (pa_cons (pe_ix ix_seq (pv 0) pe_int (fun _ _ => rfl)) pa_nil)) (pa_cons (pe_mkX X_InvalidBook G_init hr (by decide) (pa_cons (pe_ix ix_seq (pv 0) pe_int (fun _ _ => rfl)) pa_nil)) (pa_cons (pe_mkX X_InvalidName G_init hr (by decide) (pa_cons (pe_ix ix_seq (pv 0) pe_int (fun _ _ => rfl)) pa_nil)) (pa_cons (pe_mkX X_DoubleName G_init hr (by decide) (pa_cons (pe_ix ix_seq (pv 0) pe_int (fun _ _ => rfl)) pa_nil)) (pa_cons (pe_mkX X_UnknownName G_init hr (by decide) (pa_cons (pe_ix ix_seq (pv 0) pe_int (fun _ _ => rfl)) pa_nil)) (pa_cons (pe_mkX X_InvalidNote G_init hr (by decide) (pa_cons (pe_ix ix_seq (pv 0) pe_int (fun _ _ => rfl)) pa_nil)) (pa_cons (pe_mkX X_InvalidSource G_init hr (by decide) (pa_cons (pe_ix ix_seq (pv 0) pe_int (fun _ _ => rfl)) pa_nil)) (pa_cons (pe_mkX X_NoChance G_init hr (by decide) (pa_cons (pe_ix ix_seq (pv 0) pe_int (fun _ _ => rfl)) pa_nil)) (pa_cons (pe_mkX X_NothingToUndo G_init hr (by decide) (pa_cons (pe_ix ix_seq (pv 0) pe_int (fun _ _ => rfl)) pa_nil)) (pa_cons (pe_mkX X_Unreadable G_init hr (by decide) (pa_cons (pe_ix ix_seq (pv 0) pe_int (fun _ _ => rfl)) pa_nil)) pa_nil)))))))))))))))))))), fun μ ds post exc hl hP => ?_⟩
  obtain ⟨hp, d, rfl, hh, hq⟩ := hP
  rw [range17] at hh
  walk_at "d0"
  walk_at "dx"
  refine evx_lst ?_
  walk_at "dx"
  refine evx_mkX X_WorthError.k.ox X_WorthError.k.nv ?_
  walk_at "dx"
  try refine ⟨_, rfl, ?_⟩
  walk_at "dx"
  refine evx_mkX X_InvalidNumber.k.ox X_InvalidNumber.k.nv ?_
  walk_at "dx"
  try refine ⟨_, rfl, ?_⟩
  walk_at "dx"
  refine evx_mkX X_InvalidSigns.k.ox X_InvalidSigns.k.nv ?_
  walk_at "dx"
  try refine ⟨_, rfl, ?_⟩
  walk_at "dx"
  refine evx_mkX X_UnknownSign.k.ox X_UnknownSign.k.nv ?_
  walk_at "dx"
  try refine ⟨_, rfl, ?_⟩
  walk_at "dx"
  refine evx_mkX X_InvalidMachine.k.ox X_InvalidMachine.k.nv ?_
  walk_at "dx"
  try refine ⟨_, rfl, ?_⟩
  walk_at "dx"
  refine evx_mkX X_UnlikeSigns.k.ox X_UnlikeSigns.k.nv ?_
  walk_at "dx"
  try refine ⟨_, rfl, ?_⟩
  walk_at "dx"
  refine evx_mkX X_Endless.k.ox X_Endless.k.nv ?_
  walk_at "dx"
  try refine ⟨_, rfl, ?_⟩
  walk_at "dx"
  refine evx_mkX X_InvalidPattern.k.ox X_InvalidPattern.k.nv ?_
  walk_at "dx"
  try refine ⟨_, rfl, ?_⟩
  walk_at "dx"
  refine evx_mkX X_InvalidBook.k.ox X_InvalidBook.k.nv ?_
  walk_at "dx"
  try refine ⟨_, rfl, ?_⟩
  walk_at "dx"
  refine evx_mkX X_InvalidName.k.ox X_InvalidName.k.nv ?_
  walk_at "dx"
  try refine ⟨_, rfl, ?_⟩
  walk_at "dx"
  refine evx_mkX X_DoubleName.k.ox X_DoubleName.k.nv ?_
  walk_at "dx"
  try refine ⟨_, rfl, ?_⟩
  walk_at "dx"
  refine evx_mkX X_UnknownName.k.ox X_UnknownName.k.nv ?_
  walk_at "dx"
  try refine ⟨_, rfl, ?_⟩
  walk_at "dx"
  refine evx_mkX X_InvalidNote.k.ox X_InvalidNote.k.nv ?_
  walk_at "dx"
  try refine ⟨_, rfl, ?_⟩
  walk_at "dx"
  refine evx_mkX X_InvalidSource.k.ox X_InvalidSource.k.nv ?_
  walk_at "dx"
  try refine ⟨_, rfl, ?_⟩
  walk_at "dx"
  refine evx_mkX X_NoChance.k.ox X_NoChance.k.nv ?_
  walk_at "dx"
  try refine ⟨_, rfl, ?_⟩
  walk_at "dx"
  refine evx_mkX X_NothingToUndo.k.ox X_NothingToUndo.k.nv ?_
  walk_at "dx"
  try refine ⟨_, rfl, ?_⟩
  walk_at "dx"
  refine evx_mkX X_Unreadable.k.ox X_Unreadable.k.nv ?_
  walk_at "dx"
  try refine ⟨_, rfl, ?_⟩
  walk_at "dx"
  exact hq
theorem c_named (h : Std K mg "_law_named" s__law_named) (X_WorthError : ExcD K mg "WorthError" A_WorthError fI) (X_InvalidNumber : ExcD K mg "InvalidNumber" A_InvalidNumber fI) (X_InvalidSigns : ExcD K mg "InvalidSigns" A_InvalidSigns fI) (X_UnknownSign : ExcD K mg "UnknownSign" A_UnknownSign fI) (X_InvalidMachine : ExcD K mg "InvalidMachine" A_InvalidMachine fI) (X_UnlikeSigns : ExcD K mg "UnlikeSigns" A_UnlikeSigns fI) (X_Endless : ExcD K mg "Endless" A_Endless fI) (X_InvalidPattern : ExcD K mg "InvalidPattern" A_InvalidPattern fI) (X_InvalidBook : ExcD K mg "InvalidBook" A_InvalidBook fI) (X_InvalidName : ExcD K mg "InvalidName" A_InvalidName fI) (X_DoubleName : ExcD K mg "DoubleName" A_DoubleName fI) (X_UnknownName : ExcD K mg "UnknownName" A_UnknownName fI) (X_InvalidNote : ExcD K mg "InvalidNote" A_InvalidNote fI) (X_InvalidSource : ExcD K mg "InvalidSource" A_InvalidSource fI) (X_NoChance : ExcD K mg "NoChance" A_NoChance fI) (X_NothingToUndo : ExcD K mg "NothingToUndo" A_NothingToUndo fI) (X_Unreadable : ExcD K mg "Unreadable" A_Unreadable fI) (G_initK : IniK P w K mg base fI) : Cal P w K mg base CX0 3 "_law_named" s__law_named ["_law_held"] (spD K 1 (P_made (clsL [A_WorthError, A_InvalidNumber, A_InvalidSigns, A_UnknownSign, A_InvalidMachine, A_UnlikeSigns, A_Endless, A_InvalidPattern, A_InvalidBook, A_InvalidName, A_DoubleName, A_UnknownName, A_InvalidNote, A_InvalidSource, A_NoChance, A_NothingToUndo, A_Unreadable]))) := by
  refine cal0 h sc__law_named (fun _ _ _ _ _ _ us hl => match us, hl with | [_], _ => rfl) fun f cdv A outer s H E hr => ⟨_,
    have hu64 := hr.units; (pss_one (ps_ret (pe_lst (pa_cons (pe_mkXK X_WorthError G_initK hr (by decide) (pk_cons (pe_ix ix_seq (pv 0) pe_int (fun _ _ => rfl)) pk_nil)) (pa_cons (pe_mkXK X_InvalidNumber G_initK hr (by decide) (pk_cons (pe_ix ix_seq (pv 0) pe_int (fun _ _ => rfl)) pk_nil)) (pa_cons (pe_mkXK X_InvalidSigns G_initK hr (by decide) (pk_cons (pe_ix ix_seq (pv 0) pe_int (fun _ _ => rfl)) pk_nil)) (pa_cons (pe_mkXK X_UnknownSign G_initK hr (by decide) (pk_cons (pe_ix ix_seq (pv 0) pe_int (fun _ _ => rfl)) pk_nil)) (pa_cons (pe_mkXK X_InvalidMachine G_initK hr (by decide) (pk_cons (pe_ix ix_seq (pv 0) pe_int (fun _ _ => rfl)) pk_nil)) (pa_cons (pe_mkXK X_UnlikeSigns G_initK hr (by decide) (pk_cons (pe_ix ix_seq (pv 0) pe_int (fun _ _ => rfl)) pk_nil)) (pa_cons (pe_mkXK X_Endless G_initK hr (by decide) (pk_cons (pe_ix ix_seq (pv 0) pe_int (fun _ _ => rfl)) pk_nil)) (pa_cons (pe_mkXK X_InvalidPattern G_initK hr (by decide) (pk_cons (pe_ix ix_seq (pv 0) pe_int (fun _ _ => rfl)) pk_nil)) (pa_cons (pe_mkXK X_InvalidBook G_initK hr (by decide) (pk_cons (pe_ix ix_seq (pv 0) pe_int (fun _ _ => rfl)) pk_nil)) (pa_cons (pe_mkXK X_InvalidName G_initK hr (by decide) (pk_cons (pe_ix ix_seq (pv 0) pe_int (fun _ _ => rfl)) pk_nil)) (pa_cons (pe_mkXK X_DoubleName G_initK hr (by decide) (pk_cons (pe_ix ix_seq (pv 0) pe_int (fun _ _ => rfl)) pk_nil)) (pa_cons (pe_mkXK X_UnknownName G_initK hr (by decide) (pk_cons (pe_ix ix_seq (pv 0) pe_int (fun _ _ => rfl)) pk_nil)) (pa_cons (pe_mkXK X_InvalidNote G_initK hr (by decide) (pk_cons (pe_ix ix_seq (pv 0) pe_int (fun _ _ => rfl)) pk_nil)) (pa_cons (pe_mkXK X_InvalidSource G_initK hr (by decide) (pk_cons (pe_ix ix_seq (pv 0) pe_int (fun _ _ => rfl)) pk_nil)) (pa_cons (pe_mkXK X_NoChance G_initK hr (by decide) (pk_cons (pe_ix ix_seq (pv 0) pe_int (fun _ _ => rfl)) pk_nil)) (pa_cons (pe_mkXK X_NothingToUndo G_initK hr (by decide) (pk_cons (pe_ix ix_seq (pv 0) pe_int (fun _ _ => rfl)) pk_nil)) (pa_cons (pe_mkXK X_Unreadable G_initK hr (by decide) (pk_cons (pe_ix ix_seq (pv 0) pe_int (fun _ _ => rfl)) pk_nil)) pa_nil)))))))))))))))))))), fun μ ds post exc hl hP => ?_⟩
  obtain ⟨hp, d, rfl, hh, hq⟩ := hP
  rw [range17] at hh
  walk_at "d0"
  walk_at "dx"
  refine evx_lst ?_
  walk_at "dx"
  refine evx_mkXK X_WorthError.k.ox X_WorthError.k.nv ?_
  walk_at "dx"
  try refine ⟨_, rfl, ?_⟩
  walk_at "dx"
  refine evx_mkXK X_InvalidNumber.k.ox X_InvalidNumber.k.nv ?_
  walk_at "dx"
  try refine ⟨_, rfl, ?_⟩
  walk_at "dx"
  refine evx_mkXK X_InvalidSigns.k.ox X_InvalidSigns.k.nv ?_
  walk_at "dx"
  try refine ⟨_, rfl, ?_⟩
  walk_at "dx"
  refine evx_mkXK X_UnknownSign.k.ox X_UnknownSign.k.nv ?_
  walk_at "dx"
  try refine ⟨_, rfl, ?_⟩
  walk_at "dx"
  refine evx_mkXK X_InvalidMachine.k.ox X_InvalidMachine.k.nv ?_
  walk_at "dx"
  try refine ⟨_, rfl, ?_⟩
  walk_at "dx"
  refine evx_mkXK X_UnlikeSigns.k.ox X_UnlikeSigns.k.nv ?_
  walk_at "dx"
  try refine ⟨_, rfl, ?_⟩
  walk_at "dx"
  refine evx_mkXK X_Endless.k.ox X_Endless.k.nv ?_
  walk_at "dx"
  try refine ⟨_, rfl, ?_⟩
  walk_at "dx"
  refine evx_mkXK X_InvalidPattern.k.ox X_InvalidPattern.k.nv ?_
  walk_at "dx"
  try refine ⟨_, rfl, ?_⟩
  walk_at "dx"
  refine evx_mkXK X_InvalidBook.k.ox X_InvalidBook.k.nv ?_
  walk_at "dx"
  try refine ⟨_, rfl, ?_⟩
  walk_at "dx"
  refine evx_mkXK X_InvalidName.k.ox X_InvalidName.k.nv ?_
  walk_at "dx"
  try refine ⟨_, rfl, ?_⟩
  walk_at "dx"
  refine evx_mkXK X_DoubleName.k.ox X_DoubleName.k.nv ?_
  walk_at "dx"
  try refine ⟨_, rfl, ?_⟩
  walk_at "dx"
  refine evx_mkXK X_UnknownName.k.ox X_UnknownName.k.nv ?_
  walk_at "dx"
  try refine ⟨_, rfl, ?_⟩
  walk_at "dx"
  refine evx_mkXK X_InvalidNote.k.ox X_InvalidNote.k.nv ?_
  walk_at "dx"
  try refine ⟨_, rfl, ?_⟩
  walk_at "dx"
  refine evx_mkXK X_InvalidSource.k.ox X_InvalidSource.k.nv ?_
  walk_at "dx"
  try refine ⟨_, rfl, ?_⟩
  walk_at "dx"
  refine evx_mkXK X_NoChance.k.ox X_NoChance.k.nv ?_
  walk_at "dx"
  try refine ⟨_, rfl, ?_⟩
  walk_at "dx"
  refine evx_mkXK X_NothingToUndo.k.ox X_NothingToUndo.k.nv ?_
  walk_at "dx"
  try refine ⟨_, rfl, ?_⟩
  walk_at "dx"
  refine evx_mkXK X_Unreadable.k.ox X_Unreadable.k.nv ?_
  walk_at "dx"
  try refine ⟨_, rfl, ?_⟩
  walk_at "dx"
  exact hq
theorem c_kinds (h : Std K mg "_law_kinds" s__law_kinds) (n_isinstance : mg "isinstance" = none) (X_WorthError : ExcD K mg "WorthError" A_WorthError fI) (X_InvalidNumber : ExcD K mg "InvalidNumber" A_InvalidNumber fI) (X_InvalidSigns : ExcD K mg "InvalidSigns" A_InvalidSigns fI) (X_UnknownSign : ExcD K mg "UnknownSign" A_UnknownSign fI) (X_InvalidMachine : ExcD K mg "InvalidMachine" A_InvalidMachine fI) (X_UnlikeSigns : ExcD K mg "UnlikeSigns" A_UnlikeSigns fI) (X_Endless : ExcD K mg "Endless" A_Endless fI) (X_InvalidPattern : ExcD K mg "InvalidPattern" A_InvalidPattern fI) (X_InvalidBook : ExcD K mg "InvalidBook" A_InvalidBook fI) (X_InvalidName : ExcD K mg "InvalidName" A_InvalidName fI) (X_DoubleName : ExcD K mg "DoubleName" A_DoubleName fI) (X_UnknownName : ExcD K mg "UnknownName" A_UnknownName fI) (X_InvalidNote : ExcD K mg "InvalidNote" A_InvalidNote fI) (X_InvalidSource : ExcD K mg "InvalidSource" A_InvalidSource fI) (X_NoChance : ExcD K mg "NoChance" A_NoChance fI) (X_NothingToUndo : ExcD K mg "NothingToUndo" A_NothingToUndo fI) (X_Unreadable : ExcD K mg "Unreadable" A_Unreadable fI) (G : ClsG K) (T : ∀ k, k < 17 → ExcK K ((clsL [A_WorthError, A_InvalidNumber, A_InvalidSigns, A_UnknownSign, A_InvalidMachine, A_UnlikeSigns, A_Endless, A_InvalidPattern, A_InvalidBook, A_InvalidName, A_DoubleName, A_UnknownName, A_InvalidNote, A_InvalidSource, A_NoChance, A_NothingToUndo, A_Unreadable]) k)) (F : ∀ k, k < 17 → ∀ j, j < 16 → PySem.W.kitOne K (.ref ((clsL [A_WorthError, A_InvalidNumber, A_InvalidSigns, A_UnknownSign, A_InvalidMachine, A_UnlikeSigns, A_Endless, A_InvalidPattern, A_InvalidBook, A_InvalidName, A_DoubleName, A_UnknownName, A_InvalidNote, A_InvalidSource, A_NoChance, A_NothingToUndo, A_Unreadable]) k)) (.ref ((clsL [A_WorthError, A_InvalidNumber, A_InvalidSigns, A_UnknownSign, A_InvalidMachine, A_UnlikeSigns, A_Endless, A_InvalidPattern, A_InvalidBook, A_InvalidName, A_DoubleName, A_UnknownName, A_InvalidNote, A_InvalidSource, A_NoChance, A_NothingToUndo, A_Unreadable]) (j + 1))) = some (decide (k = j + 1))) : Cal P w K mg base CX0 1 "_law_kinds" s__law_kinds ["_law_error"] (spD K 1 (P_kinds (clsL [A_WorthError, A_InvalidNumber, A_InvalidSigns, A_UnknownSign, A_InvalidMachine, A_UnlikeSigns, A_Endless, A_InvalidPattern, A_InvalidBook, A_InvalidName, A_DoubleName, A_UnknownName, A_InvalidNote, A_InvalidSource, A_NoChance, A_NothingToUndo, A_Unreadable]))) := by
  refine cal0 h sc__law_kinds (fun _ _ _ _ _ _ us hl => match us, hl with | [_], _ => rfl) fun f cdv A outer s H E hr => ⟨_,
    have hu64 := hr.units; (pss_one (ps_ret (pe_lst (pa_cons (pe_callB call_isU (by rfl) n_isinstance (by decide +kernel) (pa_cons (pv 0) (pa_cons (pe_glob (v := .ref A_InvalidNumber) rfl X_InvalidNumber.m rfl) pa_nil))) (pa_cons (pe_callB call_isU (by rfl) n_isinstance (by decide +kernel) (pa_cons (pv 0) (pa_cons (pe_glob (v := .ref A_InvalidSigns) rfl X_InvalidSigns.m rfl) pa_nil))) (pa_cons (pe_callB call_isU (by rfl) n_isinstance (by decide +kernel) (pa_cons (pv 0) (pa_cons (pe_glob (v := .ref A_UnknownSign) rfl X_UnknownSign.m rfl) pa_nil))) (pa_cons (pe_callB call_isU (by rfl) n_isinstance (by decide +kernel) (pa_cons (pv 0) (pa_cons (pe_glob (v := .ref A_InvalidMachine) rfl X_InvalidMachine.m rfl) pa_nil))) (pa_cons (pe_callB call_isU (by rfl) n_isinstance (by decide +kernel) (pa_cons (pv 0) (pa_cons (pe_glob (v := .ref A_UnlikeSigns) rfl X_UnlikeSigns.m rfl) pa_nil))) (pa_cons (pe_callB call_isU (by rfl) n_isinstance (by decide +kernel) (pa_cons (pv 0) (pa_cons (pe_glob (v := .ref A_Endless) rfl X_Endless.m rfl) pa_nil))) (pa_cons (pe_callB call_isU (by rfl) n_isinstance (by decide +kernel) (pa_cons (pv 0) (pa_cons (pe_glob (v := .ref A_InvalidPattern) rfl X_InvalidPattern.m rfl) pa_nil))) (pa_cons (pe_callB call_isU (by rfl) n_isinstance (by decide +kernel) (pa_cons (pv 0) (pa_cons (pe_glob (v := .ref A_InvalidBook) rfl X_InvalidBook.m rfl) pa_nil))) (pa_cons (pe_callB call_isU (by rfl) n_isinstance (by decide +kernel) (pa_cons (pv 0) (pa_cons (pe_glob (v := .ref A_InvalidName) rfl X_InvalidName.m rfl) pa_nil))) (pa_cons (pe_callB call_isU (by rfl) n_isinstance (by decide +kernel) (pa_cons (pv 0) (pa_cons (pe_glob (v := .ref A_DoubleName) rfl X_DoubleName.m rfl) pa_nil))) (pa_cons (pe_callB call_isU (by rfl) n_isinstance (by decide +kernel) (pa_cons (pv 0) (pa_cons (pe_glob (v := .ref A_UnknownName) rfl X_UnknownName.m rfl) pa_nil))) (pa_cons (pe_callB call_isU (by rfl) n_isinstance (by decide +kernel) (pa_cons (pv 0) (pa_cons (pe_glob (v := .ref A_InvalidNote) rfl X_InvalidNote.m rfl) pa_nil))) (pa_cons (pe_callB call_isU (by rfl) n_isinstance (by decide +kernel) (pa_cons (pv 0) (pa_cons (pe_glob (v := .ref A_InvalidSource) rfl X_InvalidSource.m rfl) pa_nil))) (pa_cons (pe_callB call_isU (by rfl) n_isinstance (by decide +kernel) (pa_cons (pv 0) (pa_cons (pe_glob (v := .ref A_NoChance) rfl X_NoChance.m rfl) pa_nil))) (pa_cons (pe_callB call_isU (by rfl) n_isinstance (by decide +kernel) (pa_cons (pv 0) (pa_cons (pe_glob (v := .ref A_NothingToUndo) rfl X_NothingToUndo.m rfl) pa_nil))) (pa_cons (pe_callB call_isU (by rfl) n_isinstance (by decide +kernel) (pa_cons (pv 0) (pa_cons (pe_glob (v := .ref A_Unreadable) rfl X_Unreadable.m rfl) pa_nil))) pa_nil))))))))))))))))))), fun μ ds post exc hl hP => ?_⟩
  obtain ⟨k, d, rfl, hk, hq⟩ := hP
  have Tk := T k hk
  walk_at "d0"
  walk_at "dx"
  refine evx_lst ?_
  walk_at "dx"
  refine cax_isX Tk G (F k hk 0 (by decide)) ?_
  walk_at "dx"
  refine cax_isX Tk G (F k hk 1 (by decide)) ?_
  walk_at "dx"
  refine cax_isX Tk G (F k hk 2 (by decide)) ?_
  walk_at "dx"
  refine cax_isX Tk G (F k hk 3 (by decide)) ?_
  walk_at "dx"
  refine cax_isX Tk G (F k hk 4 (by decide)) ?_
  walk_at "dx"
  refine cax_isX Tk G (F k hk 5 (by decide)) ?_
  walk_at "dx"
  refine cax_isX Tk G (F k hk 6 (by decide)) ?_
  walk_at "dx"
  refine cax_isX Tk G (F k hk 7 (by decide)) ?_
  walk_at "dx"
  refine cax_isX Tk G (F k hk 8 (by decide)) ?_
  walk_at "dx"
  refine cax_isX Tk G (F k hk 9 (by decide)) ?_
  walk_at "dx"
  refine cax_isX Tk G (F k hk 10 (by decide)) ?_
  walk_at "dx"
  refine cax_isX Tk G (F k hk 11 (by decide)) ?_
  walk_at "dx"
  refine cax_isX Tk G (F k hk 12 (by decide)) ?_
  walk_at "dx"
  refine cax_isX Tk G (F k hk 13 (by decide)) ?_
  walk_at "dx"
  refine cax_isX Tk G (F k hk 14 (by decide)) ?_
  walk_at "dx"
  refine cax_isX Tk G (F k hk 15 (by decide)) ?_
  walk_at "dx"
  exact hq
end
/-! ### things that are held -/
theorem Keep.cuts {a g p : Addr} {μ μ' : Mu} (h : Keep a g μ μ') : Keep a g (mcut μ p) (mcut μ' p) := fun b o h1 h2 e => by
  by_cases hb : b = p
  · rw [hb, mcut_same] at e; cases e
  · rw [mcut_ne hb] at e ⊢; exact h b o h1 h2 e
/-- plain at its head, and no list or dict -/
def Plain (d : D) : Prop := d = .non ∨ (∃ b, d = .bl b) ∨ (∃ i, d = .int i) ∨ (∃ z, d = .str z) ∨ ∃ ds, d = .tup ds
theorem plain_of {m : Nat} {d : D} {T : String} (h : alE m d = true) (ht : tyD d = some T) (h1 : T ≠ "list") (h2 : T ≠ "dict") : Plain d := by
  cases d with
  | non => exact .inl rfl
  | bl b => exact .inr (.inl ⟨b, rfl⟩)
  | int i => exact .inr (.inr (.inl ⟨i, rfl⟩))
  | str z => exact .inr (.inr (.inr (.inl ⟨z, rfl⟩)))
  | tup ds => exact .inr (.inr (.inr (.inr ⟨ds, rfl⟩)))
  | lst ds => exact absurd (Option.some.inj ht.symm) h1
  | dct ks ds => exact absurd (Option.some.inj ht.symm) h2
  | _ => cases m with | zero => cases h | succ n => cases n <;> cases h
/-- a thing held: plain, or a live list or dict that is neither the deck's nor the list hp of all; fine if hp is left out -/
structure Hd (a g hp : Addr) (b n : Nat) (μ : Mu) (d : D) : Prop where
  v : Plain d ∨ (∃ p ds, d = .at p ∧ μ p = some (.lst ds) ∧ ds.length ≤ b ∧ p ≠ a ∧ p ≠ g ∧ p ≠ hp) ∨ (∃ p ks ds, d = .at p ∧ μ p = some (.dct ks ds) ∧ ks.length ≤ b ∧ p ≠ a ∧ p ≠ g ∧ p ≠ hp)
  f : Fine (mcut μ hp) n d
theorem Hd.up {a g hp : Addr} {b b' n n' : Nat} {μ : Mu} {d : D} (h : Hd a g hp b n μ d) (hb : b ≤ b') (hn : n ≤ n') : Hd a g hp b' n' μ d := by
  refine ⟨?_, h.f.up hn⟩
  rcases h.v with h1 | ⟨p, ds, h1, h2, h3, h4⟩ | ⟨p, ks, ds, h1, h2, h3, h4⟩
  · exact .inl h1
  · exact .inr (.inl ⟨p, ds, h1, h2, Nat.le_trans h3 hb, h4⟩)
  · exact .inr (.inr ⟨p, ks, ds, h1, h2, Nat.le_trans h3 hb, h4⟩)
theorem Hd.keep {a g hp : Addr} {b n : Nat} {c c' : Int} {μ μ' : Mu} {d : D} (h : Hd a g hp b n μ d) (D0 : Deck a g c μ) (D1 : Deck a g c' μ') (k : Keep a g μ μ') (h1 : hp ≠ a) (h2 : hp ≠ g) : Hd a g hp b n μ' d := by
  refine ⟨?_, h.f.tame (tame_deck (D0.cut h1 h2) (D1.cut h1 h2) k.cuts)⟩
  rcases h.v with h1 | ⟨p, ds, h1, h2, h3, h4, h5, h6⟩ | ⟨p, ks, ds, h1, h2, h3, h4, h5, h6⟩
  · exact .inl h1
  · exact .inr (.inl ⟨p, ds, h1, k p _ h4 h5 h2, h3, h4, h5, h6⟩)
  · exact .inr (.inr ⟨p, ks, ds, h1, k p _ h4 h5 h2, h3, h4, h5, h6⟩)
theorem Hd.stay {a g hp : Addr} {b n : Nat} {μ μ' : Mu} {d : D} (h : Hd a g hp b n μ d) (k : ∀ b o, b ≠ hp → μ b = some o → μ' b = some o) : Hd a g hp b n μ' d := by
  refine ⟨?_, h.f.tame (tame_stay fun b o e => ?_)⟩
  · rcases h.v with h1 | ⟨p, ds, h1, h2, h3, h4, h5, h6⟩ | ⟨p, ks, ds, h1, h2, h3, h4, h5, h6⟩
    · exact .inl h1
    · exact .inr (.inl ⟨p, ds, h1, k p _ h6 h2, h3, h4, h5, h6⟩)
    · exact .inr (.inr ⟨p, ks, ds, h1, k p _ h6 h2, h3, h4, h5, h6⟩)
  · by_cases hb : b = hp
    · rw [hb, mcut_same] at e; cases e
    · rw [mcut_ne hb] at e ⊢; exact k b o hb e
theorem Hd.new {a g hp q : Addr} {b n : Nat} {μ : Mu} {o : MO} {d : D} (h : Hd a g hp b n μ d) (hq : μ q = none) : Hd a g hp b n (mput μ q o) d :=
  h.stay fun b' o' _ e => by
    have : b' ≠ q := fun z => by rw [z, hq] at e; cases e
    rw [mput_ne this]; exact e
theorem Hd.seat {a g hp : Addr} {b n : Nat} {μ : Mu} {o : MO} {d : D} (h : Hd a g hp b n μ d) : Hd a g hp b n (mput μ hp o) d :=
  h.stay fun b' o' hb e => by rw [mput_ne hb]; exact e
theorem cut_put {μ : Mu} {p q : Addr} {o : MO} (h : p ≠ q) : mcut (mput μ p o) q = mput (mcut μ q) p o := by
  funext b
  by_cases hb : b = q
  · subst hb; rw [mcut_same, mput_ne (Ne.symm h), mcut_same]
  · rw [mcut_ne hb]
    by_cases hp : b = p
    · subst hp; rw [mput_same, mput_same]
    · rw [mput_ne hp, mput_ne hp, mcut_ne hb]
theorem Hd.app {a g hp p : Addr} {b n : Nat} {μ : Mu} {ds : List D} {i : Int} {d : D} (h : Hd a g hp b n μ d) (hp1 : p ≠ hp) (e : μ p = some (.lst ds)) : Hd a g hp (b + 1) n (mput μ p (.lst (ds ++ [.int i]))) d := by
  refine ⟨?_, ?_⟩
  · rcases h.v with h1 | ⟨p', ds', h1, h2, h3, h4, h5, h6⟩ | ⟨p', ks, ds', h1, h2, h3, h4, h5, h6⟩
    · exact .inl h1
    · by_cases hq : p' = p
      · rw [hq] at h1 h2 h4 h5 h6
        rw [e] at h2; cases h2
        exact .inr (.inl ⟨p, _, h1, mput_same, by rw [List.length_append, List.length_singleton]; omega, h4, h5, h6⟩)
      · exact .inr (.inl ⟨p', ds', h1, by rw [mput_ne hq]; exact h2, by omega, h4, h5, h6⟩)
    · have hq : p' ≠ p := fun z => by rw [z, e] at h2; cases h2
      exact .inr (.inr ⟨p', ks, ds', h1, by rw [mput_ne hq]; exact h2, by omega, h4, h5, h6⟩)
  · rw [cut_put hp1]
    refine h.f.tame (tame_lst (by rw [mcut_ne hp1]; exact e) fun x hx => ?_)
    rcases List.mem_append.mp hx with hx | hx
    · exact .inl hx
    · exact .inr ⟨i, List.mem_singleton.mp hx⟩
theorem Hd.dput {a g hp p : Addr} {b n : Nat} {μ : Mu} {ks : List Key} {ds : List D} {k : Key} {i : Int} {d : D} (h : Hd a g hp b n μ d) (hp1 : p ≠ hp) (e : μ p = some (.dct ks ds)) : Hd a g hp (b + 1) n (mput μ p (.dct (putKs ks k) (putDs ks ds k (.int i)))) d := by
  refine ⟨?_, ?_⟩
  · rcases h.v with h1 | ⟨p', ds', h1, h2, h3, h4, h5, h6⟩ | ⟨p', ks', ds', h1, h2, h3, h4, h5, h6⟩
    · exact .inl h1
    · have hq : p' ≠ p := fun z => by rw [z, e] at h2; cases h2
      exact .inr (.inl ⟨p', ds', h1, by rw [mput_ne hq]; exact h2, by omega, h4, h5, h6⟩)
    · by_cases hq : p' = p
      · rw [hq] at h1 h2 h4 h5 h6
        rw [e] at h2; cases h2
        exact .inr (.inr ⟨p, _, _, h1, mput_same, Nat.le_trans putKs_len (by omega), h4, h5, h6⟩)
      · exact .inr (.inr ⟨p', ks', ds', h1, by rw [mput_ne hq]; exact h2, by omega, h4, h5, h6⟩)
  · rw [cut_put hp1]
    refine h.f.tame (tame_dct (by rw [mcut_ne hp1]; exact e) fun x hx => ?_)
    rcases mem_putDs hx with hx | hx
    · exact .inl hx
    · exact .inr ⟨i, hx⟩
theorem hd_int {a g hp : Addr} {b n : Nat} {μ : Mu} (i : Int) : Hd a g hp b n μ (.int i) := ⟨.inl (.inr (.inr (.inl ⟨i, rfl⟩))), by unfold Fine; rw [seeG_int]; exact (alE_scal n).2.2.1 i⟩
theorem hd_lst {a g hp q : Addr} {b n : Nat} {μ : Mu} {ds : List D} (e : μ q = some (.lst ds)) (h : ∀ x ∈ ds, Hd a g hp b n μ x) (hb : ds.length ≤ b) (h1 : q ≠ a) (h2 : q ≠ g) (h3 : q ≠ hp) : Hd a g hp b (n + 1) μ (.at q) :=
  ⟨.inr (.inl ⟨q, ds, rfl, e, hb, h1, h2, h3⟩), fine_lst (by rw [mcut_ne h3]; exact e) fun x hx => (h x hx).f⟩
theorem hd_dct {a g hp q : Addr} {b n : Nat} {μ : Mu} {ks : List Key} {ds : List D} (e : μ q = some (.dct ks ds)) (h : ∀ x ∈ ds, Hd a g hp b n μ x) (hb : ks.length ≤ b) (h1 : q ≠ a) (h2 : q ≠ g) (h3 : q ≠ hp) : Hd a g hp b (n + 2) μ (.at q) :=
  ⟨.inr (.inr ⟨q, ks, ds, rfl, e, hb, h1, h2, h3⟩), fine_dct (by rw [mcut_ne h3]; exact e) fun x hx => (h x hx).f⟩
theorem hd_live {a g hp : Addr} {b m : Nat} {μ0 μ' : Mu} {d : D} (h : LiveV a g b m μ0 μ' d) (hh : μ0 hp ≠ none) : Hd a g hp b (m + 2) μ' d := by
  rcases h with ⟨h1, T, h2, h3, h4⟩ | ⟨p, ds, rfl, h1, h2, h3, h4, h5, h6⟩ | ⟨p, ks, ds, rfl, h1, h2, h3, h4, h5, h6⟩
  · exact ⟨.inl (plain_of h1 h2 h3 h4), fine_pure h1 (by omega)⟩
  · have hq : p ≠ hp := fun z => hh (by rw [← z]; exact h5)
    exact ⟨.inr (.inl ⟨p, ds, rfl, h1, h2, h3, h4, hq⟩), (fine_lst (n := m) (by rw [mcut_ne hq]; exact h1) fun x hx => fine_pure (h6 x hx) (Nat.le_refl _)).up (by omega)⟩
  · have hq : p ≠ hp := fun z => hh (by rw [← z]; exact h5)
    exact ⟨.inr (.inr ⟨p, ks, ds, rfl, h1, h2, h3, h4, hq⟩), fine_dct (n := m) (by rw [mcut_ne hq]; exact h1) fun x hx => fine_pure (h6 x hx) (Nat.le_refl _)⟩
theorem fine_uncut {μ : Mu} {hp : Addr} {n : Nat} {d : D} (h : Fine (mcut μ hp) n d) : Fine μ n d := h.tame (tame_stay fun b o e => by
  by_cases hb : b = hp
  · rw [hb, mcut_same] at e; cases e
  · rwa [mcut_ne hb] at e)
theorem list17 {ds : List D} (h : ds.length = 17) : ds = (List.range 17).map fun k => ds.getD k .non := by
  refine List.ext_getElem (by rw [h]; rfl) fun i h1 h2 => ?_
  rw [List.getElem_map, List.getElem_range, List.getD_eq_getElem?_getD, List.getElem?_eq_getElem h1]
  rfl
theorem kinds_eq : ∀ k, k < 17 → eqD (.lst ((List.range 16).map fun j => .bl (decide (k = j + 1)))) (.lst ((List.range 16).map fun j => .bl (decide (k = j + 1)))) = true := by decide
theorem mput_cut {μ : Mu} {p : Addr} {o : MO} : mput (mcut μ p) p o = mput μ p o := by
  funext b
  by_cases hb : b = p
  · subst hb; rw [mput_same, mput_same]
  · rw [mput_ne hb, mput_ne hb, mcut_ne hb]
theorem cal_or {P : Program} {w : World} {K : PySem.W.Frag} {mg : Str → Option Value} {base : Heap} {CX : CXT} {k : Nat} {x : Str} {st : Stmt} {ps : List Str} {n : Nat} {P1 P2 : PD} (c1 : Cal P w K mg base CX k x st ps (spD K n P1)) (c2 : Cal P w K mg base CX k x st ps (spD K n P2)) :
    Cal P w K mg base CX k x st ps (spD K n fun μ ds post exc => P1 μ ds post exc ∨ P2 μ ds post exc) := by
  obtain ⟨f1, fd1, m1, F1, G1, b1⟩ := c1.ex
  obtain ⟨f2, fd2, m2, F2, G2, b2⟩ := c2.ex
  obtain rfl : f1 = f2 := by
    have := m1.symm.trans m2
    cases this
    rfl
  obtain rfl : fd1 = fd2 := by
    obtain ⟨_, _, _, _, _, _, _, _, _, e1, q1, _⟩ := F1.ex
    obtain ⟨_, _, _, _, _, _, _, _, _, e2, q2, _⟩ := F2.ex
    have := q1.symm.trans q2
    cases this
    rfl
  have either : ∀ {vs H Q E}, spD K n (fun μ ds post exc => P1 μ ds post exc ∨ P2 μ ds post exc) vs H Q E → spD K n P1 vs H Q E ∨ spD K n P2 vs H Q E := fun h => by
    obtain ⟨μ, ds, post, exc, m, d, hl, hp, r⟩ := h
    rcases hp with hp | hp
    · exact .inl ⟨μ, ds, post, exc, m, d, hl, hp, r⟩
    · exact .inr ⟨μ, ds, post, exc, m, d, hl, hp, r⟩
  refine ⟨f1, fd1, m1, F1, ⟨fun vs H Q E h => ?_, fun A outer s H args us vs Q E hr e b v h => ?_⟩, b1⟩
  · rcases either h with h | h
    · exact G1.len _ _ _ _ h
    · exact G2.len _ _ _ _ h
  · rcases either h with h | h
    · exact G1.run A outer s H args us vs Q E hr e b v h
    · exact G2.run A outer s H args us vs Q E hr e b v h
def P_val42 : PD := fun μ ds post exc => P_val 4 μ ds post exc ∨ P_val 2 μ ds post exc
def kindF (k : Nat) : D → D
  | .int j => .bl (decide ((k : Int) = 1 + j))
  | _ => .non
theorem kinds_due (k : Nat) : (rangeD 0 16).map (kindF k) = (List.range 16).map fun j => .bl (decide (k = j + 1)) := by
  refine List.ext_getElem? fun i => ?_
  rw [List.getElem?_map, List.getElem?_map]
  cases e : (rangeD 0 16)[i]? with
  | none =>
    have := List.getElem?_eq_none_iff.mp e
    rw [rangeD_len] at this
    rw [List.getElem?_eq_none (by rw [List.length_range]; omega)]
    rfl
  | some x =>
    obtain ⟨hi, rfl⟩ := rangeD_get e
    rw [List.getElem?_range (by omega)]
    show some (D.bl (decide ((k : Int) = 1 + (0 + (i : Int))))) = some (.bl (decide (k = i + 1)))
    rw [decide_eq_decide.mpr (show (k : Int) = 1 + (0 + (i : Int)) ↔ k = i + 1 by omega)]
def P_law : PD := fun μ ds post _ => ∃ ns : List Int, ds = [.frz (ns.map D.int)] ∧ ns.length ≤ 63 ∧ (∀ n ∈ ns, n.natAbs < 2 ^ 1048576) ∧ ∀ μ', post μ' (.bl true)
section
variable {P : Program} {w : World} {K : PySem.W.Frag} {mg : Str → Option Value} {base : Heap} {fI A_WorthError : Addr} {cl : Nat → Addr}
theorem c_law (h : Std K mg "law" s_law) (n_range : mg "range" = none) (n_list : mg "list" = none) (n_dict : mg "dict" = none) (n_int : mg "int" = none) (n_isinstance : mg "isinstance" = none) (n_ValueError : mg "ValueError" = none) (X_WorthError : ExcD K mg "WorthError" A_WorthError fI) (Gc : ClsG K) (T : ∀ k, k < 17 → ExcK K (cl k))
    (V : ∀ k, k < 17 → PySem.W.kitOne K (.ref (cl k)) (.type "ValueError") = some true) (B : ∀ k, k < 17 → PySem.W.kitOne K (.ref (cl k)) (.ref A_WorthError) = some true)
    (C__law_deck : Cal P w K mg base CX0 1 "_law_deck" s__law_deck ["_law_script"] (spD K 1 P_deck)) (C__law_draw : Cal P w K mg base CX0 1 "_law_draw" s__law_draw ["_law_deck_here", "_law_limit"] (spD K 2 P_draw)) (C__law_text : Cal P w K mg base CX0 2 "_law_text" s__law_text ["_law_deck_here"] (spD K 1 P_text)) (C__law_value : Cal P w K mg base CX0 7 "_law_value" s__law_value ["_law_deck_here", "_law_depth"] (spD K 2 P_val42))
    (C__law_alike : Cal P w K mg base CX0 21 "_law_alike" s__law_alike ["_law_found", "_law_due"] (spD K 2 (P_alikeE 21))) (C__law_made : Cal P w K mg base CX0 3 "_law_made" s__law_made ["_law_held"] (spD K 1 (P_made cl))) (C__law_named : Cal P w K mg base CX0 3 "_law_named" s__law_named ["_law_held"] (spD K 1 (P_made cl))) (C__law_kinds : Cal P w K mg base CX0 1 "_law_kinds" s__law_kinds ["_law_error"] (spD K 1 (P_kinds cl))) : Cal P w K mg base CX0 22 "law" s_law ["_law_script"] (spD K 1 P_law) := by
  refine cal0 h sc_law (fun _ _ _ _ _ _ us hl => match us, hl with | [_], _ => rfl) fun f cdv A outer s H E hr => ⟨_,
    have hu64 := hr.units; have hu := hu_of hr; (pss_cons (ps_set (i := 1) sc_law.nd rfl (Or.inr rfl) (pe_c C__law_deck hr (by first | decide | omega) (pa_cons (pv 0) pa_nil)))
 (pss_cons (ps_setLc (i := 3) (own := [("_law_k", 2)]) rfl sc_law.nd rfl rfl (sw_true rfl rfl rfl (by decide +kernel)) (pi_range1 rfl n_range (pa_cons pe_int pa_nil)) (blkOk_by (own := [("_law_k", 2)]) (N := ["_law_script", "_law_deck_here", "_law_k", "_law_held", "_law_inner", "_law_table", "_law_place", "_law_rows", "_law_errors", "_law_one", "_law_j"]) (sc := defScope s_law) (by decide +kernel)) (fun _ _ _ _ _ => pg_via (g := (gName 2)) (pg_name (i := 2) sc_law.nd rfl (Or.inl rfl)) (by (try dsimp only [Cx.blk, Cx.nox, Cx.tr]) <;> exact rfl)) (fun _ _ _ _ _ => pts_via pts_nil (by (try dsimp only [Cx.blk, Cx.nox, Cx.tr]) <;> exact rfl)) (fun _ _ _ _ _ => pe_via (pe_c C__law_value hr (by first | decide | omega) (pa_cons (pv 1) (pa_cons pe_int pa_nil))) (by (try dsimp only [Cx.blk, Cx.nox, Cx.tr]) <;> exact rfl)))
 (pss_cons (ps_par (i := 4) (j := 5) rfl sc_law.nd rfl rfl (by decide) rfl rfl (pa_cons (pe_lst (pa_cons (pe_c C__law_value hr (by first | decide | omega) (pa_cons (pv 1) (pa_cons pe_int pa_nil))) pa_nil)) (pa_cons pe_dnewK pa_nil)) (by rfl))
 (pss_cons (ps_dput hu (pv 5) (pe_c C__law_text hr (by first | decide | omega) (pa_cons (pv 1) pa_nil)) (pe_c C__law_value hr (by first | decide | omega) (pa_cons (pv 1) (pa_cons pe_int pa_nil))) rfl)
 (pss_cons (ps_set (i := 6) sc_law.nd rfl (Or.inl rfl) (pe_c C__law_draw hr (by first | decide | omega) (pa_cons (pv 1) (pa_cons pe_int pa_nil))))
 (pss_cons (ps_asg (pe_lst (pa_cons (pv 4) (pa_cons (pe_c C__law_draw hr (by first | decide | omega) (pa_cons (pv 1) (pa_cons (pe_op op_powB pe_int pe_int) pa_nil))) pa_nil))) (pg_sub (pv 3) (pv 6) set_list))
 (pss_cons (ps_asg (pv 5) (pg_sub (pv 3) (pe_op op_modN (pe_callTy call_int1 (by rfl) n_int (by decide +kernel) (pa_cons (pe_op op_addU (pe_op op_addU (pv 6) pe_int) (pe_c C__law_draw hr (by first | decide | omega) (pa_cons (pv 1) (pa_cons pe_int pa_nil)))) pa_nil)) pe_int) set_list))
 (pss_cons (ps_set (i := 7) sc_law.nd rfl (Or.inl rfl) (pe_lst (pa_cons (pe_c C__law_made hr (by first | decide | omega) (pa_cons (pv 3) pa_nil)) (pa_cons (pe_c C__law_named hr (by first | decide | omega) (pa_cons (pv 3) pa_nil)) pa_nil))))
 (pss_cons (ps_for PassesOwn.never rfl (pi_list (pv 7)) (pg_name (i := 8) sc_law.nd rfl (Or.inl rfl))
 (pss_one (ps_for PassesOwn.never rfl (pi_range1 rfl n_range (pa_cons pe_int pa_nil)) (pg_name (i := 2) sc_law.nd rfl (Or.inr rfl))
 (pss_cons (ps_if (PW.pt (pw_or (pt_not (pt_val (pe_callB call_isU (by rfl) n_isinstance (by decide +kernel) (pa_cons (pe_ix ix_seq (pv 8) (pv 2) (fun _ _ => rfl)) (pa_cons (pe_bltn (v := .ty "ValueError") (by rfl) n_ValueError (by decide +kernel) rfl) pa_nil))))) (pw_or1 (pt_not (pt_val (pe_callB call_isU (by rfl) n_isinstance (by decide +kernel) (pa_cons (pe_ix ix_seq (pv 8) (pv 2) (fun _ _ => rfl)) (pa_cons (pe_glob (v := .ref A_WorthError) rfl X_WorthError.m rfl) pa_nil))))))))
 (pss_one (ps_ret pe_bl))
 pss_nil)
 (pss_cons (ps_if (pt_cmpR (op_neU hu64) (pe_c C__law_kinds hr (by first | decide | omega) (pa_cons (pe_ix ix_seq (pv 8) (pv 2) (fun _ _ => rfl)) pa_nil)) (pe_lc (own := [("_law_j", 10)]) rfl sc_law.nd (pi_range1 rfl n_range (pa_cons pe_int pa_nil)) (blkOk_by (own := [("_law_j", 10)]) (N := ["_law_script", "_law_deck_here", "_law_k", "_law_held", "_law_inner", "_law_table", "_law_place", "_law_rows", "_law_errors", "_law_one", "_law_j"]) (sc := defScope s_law) (by decide +kernel)) (fun _ _ _ _ _ => pg_via (g := (gName 10)) (pg_name (i := 10) sc_law.nd rfl (Or.inl rfl)) (by (try dsimp only [Cx.blk, Cx.nox, Cx.tr]) <;> exact rfl)) (fun _ _ _ _ _ => pts_via pts_nil (by (try dsimp only [Cx.blk, Cx.nox, Cx.tr]) <;> exact rfl)) (fun _ _ _ _ _ => pe_via (pe_cmpR (op_eqBk hu64) (pv 2) (pe_op op_addU pe_int (pv 10)) (nomark _)) (by (try dsimp only [Cx.blk, Cx.nox, Cx.tr]) <;> exact rfl))) (nomark _))
 (pss_one (ps_ret pe_bl))
 pss_nil)
 (pss_one (ps_if (pt_not (pt_val (pe_c C__law_alike hr (by first | decide | omega) (pa_cons (pe_xv (pe_ix ix_seq (pv 8) (pv 2) (fun _ _ => rfl))) (pa_cons (pe_ix ix_seq (pv 3) (pv 2) (fun _ _ => rfl)) pa_nil)))))
 (pss_one (ps_ret pe_bl))
 pss_nil)))))))
 (pss_cons (ps_for PassesOwn.never rfl (pi_list (pv 3)) (pg_name (i := 9) sc_law.nd rfl (Or.inl rfl))
 (pss_cons (ps_if (pt_val (pe_callB call_isU (by rfl) n_isinstance (by decide +kernel) (pa_cons (pv 9) (pa_cons (pe_bltn (v := .ty "list") (by rfl) n_list (by decide +kernel) rfl) pa_nil))))
 (pss_one (ps_expr (pe_bm PySem.F.plainAttrs_list PySem.F.slot_list_append PySem.F.type_list_append mt_append (pv 9) (pa_cons (pe_c C__law_draw hr (by first | decide | omega) (pa_cons (pv 1) (pa_cons pe_int pa_nil))) pa_nil))))
 pss_nil)
 (pss_one (ps_if (pt_val (pe_callB call_isU (by rfl) n_isinstance (by decide +kernel) (pa_cons (pv 9) (pa_cons (pe_bltn (v := .ty "dict") (by rfl) n_dict (by decide +kernel) rfl) pa_nil))))
 (pss_one (ps_dput hu (pv 9) pe_str (pe_c C__law_draw hr (by first | decide | omega) (pa_cons (pv 1) (pa_cons pe_int pa_nil))) rfl))
 pss_nil))))
 (pss_cons (ps_expr (pe_bm PySem.F.plainAttrs_list PySem.F.slot_list_append PySem.F.type_list_append mt_append (pv 4) (pa_cons pe_int pa_nil)))
 (pss_cons (ps_for PassesOwn.never rfl (pi_list (pv 7)) (pg_name (i := 8) sc_law.nd rfl (Or.inl rfl))
 (pss_one (ps_for PassesOwn.never rfl (pi_range1 rfl n_range (pa_cons pe_int pa_nil)) (pg_name (i := 2) sc_law.nd rfl (Or.inr rfl))
 (pss_one (ps_if (pt_not (pt_val (pe_c C__law_alike hr (by first | decide | omega) (pa_cons (pe_xv (pe_ix ix_seq (pv 8) (pv 2) (fun _ _ => rfl))) (pa_cons (pe_ix ix_seq (pv 3) (pv 2) (fun _ _ => rfl)) pa_nil)))))
 (pss_one (ps_ret pe_bl))
 pss_nil)))))
 (pss_one (ps_ret pe_bl)))))))))))))), fun μ ds post exc hl hP => ?_⟩
  obtain ⟨ns, rfl, hn63, hbits, hp⟩ := hP
  walk_at "d0"
  walk_at "dx"
  refine ⟨ns, rfl, hn63, hbits, fun μ1 a g D1 _ _ _ => ?_⟩
  have S := deck_src a g
  walk_at "dx"
  refine evx_lc (itx_range1 ?_)
  walk_at "dx"
  refine ⟨⟨by omega, by omega⟩, fun Dl hD => ?_⟩
  have hDl := S.na D1 hD
  have hv4 : vmax 3 = 3750 := by decide
  have hv2 : vmax 1 = 150 := by decide
  refine ⟨fun i μ' acc => acc.length = i ∧ (∀ x ∈ acc, Hd a g Dl 5 14 μ' x) ∧ Deck a g (3750 * i) μ', ⟨rfl, (fun _ h => nomatch h), S.put D1 hDl.1 hDl.2⟩, ?_, ?_, ?_⟩
  · rintro i μ' acc hi _ ⟨r1, _⟩
    rw [rangeD_len] at hi
    exact ⟨by omega, True.intro⟩
  · rintro i d μ' acc hd hat ⟨r1, r2, D2⟩
    obtain ⟨hi, rfl⟩ := rangeD_get hd
    refine tcx_name (by decide) ?_
    refine evb_yes ⟨hat, ?_⟩
    rw [if_pos rfl]
    walk_at "dx"
    refine .inl ⟨a, g, _, rfl, D2, by rw [hv4]; omega, fun μ2 d h2 D3 K3 => ?_⟩
    have hh : μ' Dl ≠ none := by rw [hat]; exact fun z => nomatch z
    refine ⟨K3 Dl _ hDl.1 hDl.2 hat, by rw [List.length_append, r1]; rfl, fun x hx => ?_, S.mono (S.put D3 hDl.1 hDl.2) (by rw [hv4]; omega)⟩
    rcases List.mem_append.mp hx with hx | hx
    · exact ((r2 x hx).keep D2 D3 K3 hDl.1 hDl.2).seat
    · rw [List.mem_singleton.mp hx]; exact (hd_live h2 hh).seat
  rintro μ2 acc hat ⟨r1, r2, D2⟩
  rw [rangeD_len] at r1 D2
  right
  have hacc : acc.length = 17 := by omega
  have D2' : Deck a g 63750 μ2 := D2.mono (by omega)
  obtain ⟨ha1, ha2⟩ := hDl
  clear D2 D1 hD r1
  walk_at "dx"
  refine evx_lstM ?_
  walk_at "dx"
  refine .inr ⟨a, g, _, rfl, D2', by rw [hv2]; omega, fun μ3 v1 h1 D3 K3 => ?_⟩
  have hh2 : μ2 Dl ≠ none := by rw [hat]; exact fun z => nomatch z
  have e3 := K3 Dl _ ha1 ha2 hat
  have v1h : Hd a g Dl 5 8 μ3 v1 := hd_live h1 hh2
  have r3 : ∀ x ∈ acc, Hd a g Dl 5 14 μ3 x := fun x hx => (r2 x hx).keep D2' D3 K3 ha1 ha2
  walk_at "dx"
  intro q hq0
  have hq1 := S.na D3 hq0
  have hqD : q ≠ Dl := fun z => by rw [z, e3] at hq0; exact nomatch hq0
  walk_at "dx"
  refine evx_dnewM fun r hr0 => ?_
  have e4 : mput μ3 q (.lst [v1]) q = some (.lst [v1]) := mput_same
  have D4 := S.put (o := .lst [v1]) D3 hq1.1 hq1.2
  have r4 : ∀ x ∈ acc, Hd a g Dl 5 14 (mput μ3 q (.lst [v1])) x := fun x hx => (r3 x hx).new hq0
  have q4 : Hd a g Dl 5 9 (mput μ3 q (.lst [v1])) (.at q) := hd_lst mput_same (fun x hx => by rw [List.mem_singleton.mp hx]; exact v1h.new hq0) (by show 1 ≤ 5; decide) hq1.1 hq1.2 hqD
  have f4 : mput μ3 q (.lst [v1]) Dl = some (.lst acc) := by rw [mput_ne (Ne.symm hqD)]; exact e3
  generalize mput μ3 q (.lst [v1]) = μ4 at hr0 e4 D4 r4 q4 f4 ⊢
  clear r3 v1h e3 D3 r2 D2' hat hh2 K3 h1 hq0 μ2 μ3
  have hr1 := S.na D4 hr0
  have hrD : r ≠ Dl := fun z => by rw [z, f4] at hr0; exact nomatch hr0
  have hrq : r ≠ q := fun z => by rw [z, e4] at hr0; exact nomatch hr0
  walk_at "dx"
  refine gs_dput ?_
  walk_at "dx"
  have D5 := S.put (o := .dct [] []) D4 hr1.1 hr1.2
  refine .inr ⟨a, g, _, rfl, D5, by rw [hv2]; omega, fun μ5 v2 h2 D6 K6 => ?_⟩
  walk_at "dx"
  refine ⟨a, g, _, rfl, D6, by rw [hv2]; omega, fun μ6 z D7 K7 => ?_⟩
  have K8 := K6.trans K7
  have K9 : Keep a g μ4 (mcut μ6 r) := by
    have := K8.cuts (p := r)
    rwa [mcut_put hr0] at this
  have D9 := D7.cut hr1.1 hr1.2
  have r6 : ∀ x ∈ acc, Hd a g Dl 5 14 (mcut μ6 r) x := fun x hx => (r4 x hx).keep D4 D9 K9 ha1 ha2
  have q6 : Hd a g Dl 5 9 (mcut μ6 r) (.at q) := q4.keep D4 D9 K9 ha1 ha2
  have v2h : Hd a g Dl 5 8 (mcut μ6 r) v2 := by
    have w1 : Hd a g Dl 5 8 (mcut μ5 r) v2 := by
      refine hd_live (m := 6) (μ0 := μ4) ?_ (by rw [f4]; exact fun z => nomatch z)
      have hne : ∀ p, mput μ4 r (.dct [] []) p = none → p ≠ r ∧ μ4 p = none := fun p hp => by
        by_cases z : p = r
        · rw [z, mput_same] at hp; exact nomatch hp
        · rw [mput_ne z] at hp; exact ⟨z, hp⟩
      rcases h2 with h2 | ⟨p, ds, h1, h2, h3, h4, h5, h6, h7⟩ | ⟨p, ks, ds, h1, h2, h3, h4, h5, h6, h7⟩
      · exact .inl h2
      · exact .inr (.inl ⟨p, ds, h1, by rw [mcut_ne (hne p h6).1]; exact h2, h3, h4, h5, (hne p h6).2, h7⟩)
      · exact .inr (.inr ⟨p, ks, ds, h1, by rw [mcut_ne (hne p h6).1]; exact h2, h3, h4, h5, (hne p h6).2, h7⟩)
    exact w1.keep (D6.cut hr1.1 hr1.2) D9 K7.cuts ha1 ha2
  have er : μ6 r = some (.dct [] []) := K8 r _ hr1.1 hr1.2 mput_same
  have eq6 : mcut μ6 r q = some (.lst [v1]) := K9 q _ hq1.1 hq1.2 e4
  have eD6 : mcut μ6 r Dl = some (.lst acc) := K9 Dl _ ha1 ha2 f4
  refine ⟨r, [], [], .inr z, rfl, rfl, er, by decide, ?_⟩
  have hcut : mcut μ6 r r = none := mcut_same
  have emp : mput μ6 r (.dct (putKs [] (.inr z)) (putDs [] [] (.inr z) v2)) = mput (mcut μ6 r) r (.dct (putKs [] (.inr z)) (putDs [] [] (.inr z) v2)) := by rw [mput_cut]
  rw [emp]
  generalize mcut μ6 r = μ7 at r6 q6 v2h eq6 eD6 hcut D9 ⊢
  clear emp er K8 K9 K7 D7 K6 D6 h2 μ5 μ6 r4 q4 D4 D5 hr0 e4 f4 μ4
  have rd : Hd a g Dl 5 10 (mput μ7 r (.dct (putKs [] (.inr z)) (putDs [] [] (.inr z) v2))) (.at r) := hd_dct mput_same (fun x hx => by
    rcases mem_putDs hx with hx | rfl
    · exact nomatch hx
    · exact v2h.new hcut) (Nat.le_trans putKs_len (by decide)) hr1.1 hr1.2 hrD
  have r7 : ∀ x ∈ acc, Hd a g Dl 5 14 (mput μ7 r (.dct (putKs [] (.inr z)) (putDs [] [] (.inr z) v2))) x := fun x hx => (r6 x hx).new hcut
  have q7 := q6.new (o := .dct (putKs [] (.inr z)) (putDs [] [] (.inr z) v2)) hcut
  have e7 : mput μ7 r (.dct (putKs [] (.inr z)) (putDs [] [] (.inr z) v2)) q = some (.lst [v1]) := by rw [mput_ne (Ne.symm hrq)]; exact eq6
  have f7 : mput μ7 r (.dct (putKs [] (.inr z)) (putDs [] [] (.inr z) v2)) Dl = some (.lst acc) := by rw [mput_ne (Ne.symm hrD)]; exact eD6
  have D8 := S.put (o := .dct (putKs [] (.inr z)) (putDs [] [] (.inr z) v2)) D9 hr1.1 hr1.2
  generalize mput μ7 r (.dct (putKs [] (.inr z)) (putDs [] [] (.inr z) v2)) = μ8 at rd r7 q7 e7 f7 D8 ⊢
  clear r6 q6 v2h eq6 eD6 hcut D9 μ7
  walk_at "dx"
  refine ⟨a, g, _, 17, rfl, D8, by rw [hv2]; omega, by decide, by decide, fun μ9 pl hp0 hp1 D10 B10 => ?_⟩
  have K10 := B10.keep
  have r9 : ∀ x ∈ acc, Hd a g Dl 5 14 μ9 x := fun x hx => (r7 x hx).keep D8 D10 K10 ha1 ha2
  have q9 := q7.keep D8 D10 K10 ha1 ha2
  have d9 := rd.keep D8 D10 K10 ha1 ha2
  have e9 := K10 q _ hq1.1 hq1.2 e7
  have f9 := K10 Dl _ ha1 ha2 f7
  clear r7 q7 rd e7 f7 D8 K10 B10 μ8
  have q30 := cp10 (n := 30) (by decide) (by decide)
  walk_at "dx"
  refine evx_lstM ?_
  walk_at "dx"
  rw [p10_30]
  refine ⟨a, g, _, _, rfl, D10, by rw [hv2]; omega, by decide, small_lt (by decide) (by decide), fun μ10 y hy0 hy1 D11 B11 => ?_⟩
  have K11 := B11.keep
  have r10 : ∀ x ∈ acc, Hd a g Dl 5 14 μ10 x := fun x hx => (r9 x hx).keep D10 D11 K11 ha1 ha2
  have q10 := q9.keep D10 D11 K11 ha1 ha2
  have d10 := d9.keep D10 D11 K11 ha1 ha2
  have e10 := K11 q _ hq1.1 hq1.2 e9
  have f10 := K11 Dl _ ha1 ha2 f9
  clear r9 q9 d9 e9 f9 D10 K11 B11 μ9
  walk_at "dx"
  intro s hs0
  have hs1 := S.na D11 hs0
  have hsD : s ≠ Dl := fun z => by rw [z, f10] at hs0; exact nomatch hs0
  have hsq : s ≠ q := fun z => by rw [z, e10] at hs0; exact nomatch hs0
  have f11 : mput μ10 s (.lst [.at q, .int y]) Dl = some (.lst acc) := by rw [mput_ne (Ne.symm hsD)]; exact f10
  have e11 : mput μ10 s (.lst [.at q, .int y]) q = some (.lst [v1]) := by rw [mput_ne (Ne.symm hsq)]; exact e10
  have s11 : Hd a g Dl 5 14 (mput μ10 s (.lst [.at q, .int y])) (.at s) := (hd_lst (n := 9) mput_same (fun x hx => by
    simp only [List.mem_cons, List.not_mem_nil, or_false] at hx
    rcases hx with rfl | rfl
    · exact q10.new hs0
    · exact hd_int y) (by show 2 ≤ 5; decide) hs1.1 hs1.2 hsD).up (Nat.le_refl _) (by decide)
  have r11 : ∀ x ∈ acc, Hd a g Dl 5 14 (mput μ10 s (.lst [.at q, .int y])) x := fun x hx => (r10 x hx).new hs0
  have d11 := d10.new (o := .lst [.at q, .int y]) hs0
  have D12 := S.put (o := .lst [.at q, .int y]) D11 hs1.1 hs1.2
  generalize mput μ10 s (.lst [.at q, .int y]) = μ11 at f11 e11 s11 r11 d11 D12 ⊢
  clear r10 q10 d10 e10 f10 D11 hs0 μ10
  obtain ⟨plN, rfl⟩ : ∃ n : Nat, pl = (n : Int) := ⟨pl.toNat, by omega⟩
  have hix : ∀ n : Nat, n < 17 → L2.ixN acc.length (n : Int) = some n := fun n hn => by
    unfold L2.ixN
    rw [if_pos (by omega), if_pos (by omega), Int.toNat_natCast]
  refine tgx_subA (a := Dl) (k := (plN : Int)) (j := plN) f11 (hix plN (by omega)) ?_ (fun Ψ q => by walk_at "dx"; exact q) (fun Ψ q => by walk_at "dx"; exact q)
  have r12 : ∀ x ∈ acc.set plN (.at s), Hd a g Dl 5 14 (mput μ11 Dl (.lst (acc.set plN (.at s)))) x := fun x hx => by
    rcases List.mem_or_eq_of_mem_set hx with hx | rfl
    · exact (r11 x hx).seat
    · exact s11.seat
  have f12 : mput μ11 Dl (.lst (acc.set plN (.at s))) Dl = some (.lst (acc.set plN (.at s))) := mput_same
  have e12 : mput μ11 Dl (.lst (acc.set plN (.at s))) q = some (.lst [v1]) := by rw [mput_ne hqD]; exact e11
  have d12 := d11.seat (o := .lst (acc.set plN (.at s)))
  have D13 := S.put (o := .lst (acc.set plN (.at s))) D12 ha1 ha2
  have l12 : (acc.set plN (.at s)).length = 17 := by rw [List.length_set]; exact hacc
  generalize mput μ11 Dl (.lst (acc.set plN (.at s))) = μ12 at f12 e12 r12 d12 D13 ⊢
  clear hix r11 s11 e11 f11 d11 D12 μ11
  generalize acc.set plN (.at s) = held at f12 r12 l12 ⊢
  clear hacc acc
  walk_at "dx"
  refine tgx_sub ?_
  walk_at "dx"
  refine ⟨a, g, _, 16, rfl, D13, by rw [hv2]; omega, by decide, by decide, fun μ13 t ht0 ht1 D14 B14 => ?_⟩
  have K14 := B14.keep
  have r13 : ∀ x ∈ held, Hd a g Dl 5 14 μ13 x := fun x hx => (r12 x hx).keep D13 D14 K14 ha1 ha2
  have d13 := d12.keep D13 D14 K14 ha1 ha2
  have e13 := K14 q _ hq1.1 hq1.2 e12
  have f13 := K14 Dl _ ha1 ha2 f12
  clear r12 d12 e12 f12 D13 K14 B14 μ12
  walk_at "dx"
  obtain ⟨j, hj, hjl⟩ : ∃ j : Nat, ((plN : Int) + 1 + t) % 17 = (j : Int) ∧ j < 17 := ⟨(((plN : Int) + 1 + t) % 17).toNat, by omega, by omega⟩
  refine ⟨Dl, held, _, j, rfl, rfl, f13, ?_, ?_⟩
  · show L2.ixN held.length (((plN : Int) + 1 + t).fmod 17) = some j
    rw [Int.fmod_eq_emod_of_nonneg _ (by decide)]
    rw [hj, l12]
    unfold L2.ixN
    rw [if_pos (by omega), if_pos (by omega), Int.toNat_natCast]
  have r14 : ∀ x ∈ held.set j (.at r), Hd a g Dl 5 14 (mput μ13 Dl (.lst (held.set j (.at r)))) x := fun x hx => by
    rcases List.mem_or_eq_of_mem_set hx with hx | rfl
    · exact (r13 x hx).seat
    · exact (d13.up (Nat.le_refl _) (by decide)).seat
  have f14 : mput μ13 Dl (.lst (held.set j (.at r))) Dl = some (.lst (held.set j (.at r))) := mput_same
  have e14 : mput μ13 Dl (.lst (held.set j (.at r))) q = some (.lst [v1]) := by rw [mput_ne hqD]; exact e13
  have D15 := S.put (o := .lst (held.set j (.at r))) D14 ha1 ha2
  have l14 : (held.set j (.at r)).length = 17 := by rw [List.length_set]; exact l12
  generalize mput μ13 Dl (.lst (held.set j (.at r))) = μ14 at f14 e14 r14 D15 ⊢
  clear r13 d13 e13 f13 D14 μ13
  generalize held.set j (.at r) = all at f14 r14 l14 ⊢
  clear l12 held
  have D16 : Deck a g 65000 μ14 := D15.mono (by rw [hv2]; omega)
  clear D15
  obtain ⟨d, hd⟩ : ∃ d : Nat → D, all = (List.range 17).map d := ⟨_, list17 l14⟩
  have r15 : ∀ k, k < 17 → Hd a g Dl 5 14 μ14 (d k) := fun k hk => r14 _ (by rw [hd]; exact List.mem_map.mpr ⟨k, List.mem_range.mpr hk, rfl⟩)
  rw [hd] at f14
  clear r14 l14 hd all
  walk_at "dx"
  refine evx_lst ?_
  walk_at "dx"
  refine ⟨Dl, d, rfl, f14, ?_⟩
  walk_at "dx"
  refine ⟨Dl, d, rfl, f14, ?_⟩
  walk_at "dx"
  have hE : ∀ k : Nat, k < 17 → atI (errsD cl d) (k : Int) = some (.exc (cl k) (d k)) := fun k hk => atI_pos (by unfold errsD; rw [List.getElem?_map, List.getElem?_range hk]; rfl)
  have hH : ∀ k : Nat, k < 17 → atI ((List.range 17).map d) (k : Int) = some (d k) := fun k hk => atI_pos (by rw [List.getElem?_map, List.getElem?_range hk]; rfl)
  have two : ∀ {i : Nat} {x : D}, [D.lst (errsD cl d), .lst (errsD cl d)][i]? = some x → x = .lst (errsD cl d) := fun {i x} e => by
    match i, e with
    | 0, e => exact (Option.some.inj e).symm
    | 1, e => exact (Option.some.inj e).symm
    | n + 2, e => exact nomatch e
  have hr2 : ∀ k, k < 17 → ((List.range 17).map d)[k]? = some (d k) := fun k hk => by rw [List.getElem?_map, List.getElem?_range hk]; rfl
  refine gs_for (itx_list ?_)
  walk_at "dx"
  refine ⟨_, _, isL_lst, ?_⟩
  refine ⟨fun i μ' ρ' => μ' = μ14 ∧ ∃ (u2 u8 u9 u10 : Option D), ρ' = [some (.frz (ns.map D.int)), some (.at a), u2, some (.at Dl), some (.at q), some (.at r), some (.int (plN : Int)), some (.lst [.lst (errsD cl d), .lst (errsD cl d)]), u8, u9, u10], ⟨rfl, _, _, _, _, rfl⟩, fun _ _ _ _ _ => True.intro, ?_, ?_⟩
  · rintro i x μ15 ρ15 hx ⟨rfl, u2, u8, u9, u10, rfl⟩
    cases two hx
    walk_at "dx"
    refine gs_for (itx_range1 ?_)
    walk_at "dx"
    refine ⟨⟨by omega, by omega⟩, ?_⟩
    refine ⟨fun i μ' ρ' => μ' = μ15 ∧ ∃ (u2 u9 u10 : Option D), ρ' = [some (.frz (ns.map D.int)), some (.at a), u2, some (.at Dl), some (.at q), some (.at r), some (.int (plN : Int)), some (.lst [.lst (errsD cl d), .lst (errsD cl d)]), some (.lst (errsD cl d)), u9, u10], ⟨rfl, _, _, _, rfl⟩, fun _ _ _ _ _ => True.intro, ?_, ?_⟩
    · rintro k x μ16 ρ16 hx ⟨rfl, u2, u9, u10, rfl⟩
      obtain ⟨hk, rfl⟩ := rangeD_get hx
      have hk17 : k < 17 := by omega
      rw [Int.zero_add]
      have hEk := hE k hk17
      have hHk := hH k hk17
      walk_at "dx"
      refine cax_isXB (T k hk17) Gc (V k hk17) ?_
      walk_at "dz"
      refine cax_isX (T k hk17) Gc (B k hk17) ?_
      walk_at "dz"
      refine ⟨k, d k, rfl, hk17, ?_⟩
      walk_at "dx"
      refine evx_lcP (itx_range1 ?_)
      walk_at "dx"
      refine ⟨⟨by omega, by omega⟩, ⟨by rw [rangeD_len]; omega, fun _ _ => True.intro⟩, fun _ => true, kindF k, ?_, ?_⟩
      · intro x hx μ17 hμ
        obtain ⟨i, hi⟩ := List.mem_iff_getElem?.mp hx
        obtain ⟨_, rfl⟩ := rangeD_get hi
        refine tcx_name (by decide) ?_
        refine evb_yes ⟨rfl, rfl, fun _ => ?_⟩
        walk_at "dx"
        rfl
      rw [List.filter_eq_self.mpr (fun _ _ => rfl), show (Int.toNat 16) = 16 from rfl, kinds_due k]
      have nb : Nice 64 (.lst ((List.range 16).map fun j => D.bl (decide (k = j + 1)))) := nice_lst (n := 63) fun x hx => by
        obtain ⟨j, _, rfl⟩ := List.mem_map.mp hx
        exact nice_bl _ _
      refine opx_neN nb nb ?_
      show ∃ b, D.bl (!eqD (.lst _) (.lst _)) = .bl b ∧ _
      rw [kinds_eq k hk17]
      refine ⟨false, rfl, ifNo rfl ?_⟩
      walk_at "dn"
      refine gs_if (evb_not (evb_B (evx_callY 20 ?_)))
      walk_at "dx"
      refine ⟨T k hk17, ?_⟩
      walk_at "dx"
      refine ⟨_, rfl, (fine_uncut (r15 k hk17).f).up (by decide), rfl, true, rfl, ?_⟩
      walk_at "dz"
      exact ⟨_, _, _, rfl⟩
    · rintro μ16 ρ16 ⟨rfl, u2, u9, u10, rfl⟩
      walk_at "dx"
      exact ⟨_, _, _, _, rfl⟩
  rintro μ15 ρ15 ⟨rfl, u2, u8, u9, u10, rfl⟩
  have hmem : ∀ {i : Nat} {x : D}, ((List.range 17).map d)[i]? = some x → ∃ k, k < 17 ∧ x = d k := fun {i x} e => by
    obtain ⟨k, hk, rfl⟩ := map_at e
    exact ⟨k, List.mem_range.mp (List.mem_of_getElem? hk), rfl⟩
  walk_at "dx"
  refine gs_for (itx_list ?_)
  walk_at "dx"
  refine ⟨_, _, isL_at f14, ?_⟩
  refine ⟨fun i μ' ρ' => ∃ (u2 u8 u9 u10 : Option D), ρ' = [some (.frz (ns.map D.int)), some (.at a), u2, some (.at Dl), some (.at q), some (.at r), some (.int (plN : Int)), some (.lst [.lst (errsD cl d), .lst (errsD cl d)]), u8, u9, u10] ∧ μ' Dl = some (.lst ((List.range 17).map d)) ∧ (∀ k, k < 17 → Hd a g Dl (5 + i) 14 μ' (d k)) ∧ (∃ qs, μ' q = some (.lst qs) ∧ qs.length ≤ 5 + i) ∧ Deck a g (65000 + 2 * i) μ',
    ⟨_, _, _, _, rfl, f14, r15, ⟨_, e14, by show 1 ≤ 5; decide⟩, D16.mono (by omega)⟩, (fun _ _ _ _ z => by obtain ⟨_, _, _, _, _, z, _⟩ := z; exact z), ?_, ?_⟩
  · rintro i x μ16 ρ16 hx ⟨u2, u8, u9, u10, rfl, s1, s2, ⟨qs, s3, s4⟩, D17⟩
    have hi : i < 17 := by
      have := (List.getElem?_eq_some_iff.mp hx).1
      rwa [List.length_map, List.length_range] at this
    obtain ⟨k, hk17, rfl⟩ := hmem hx
    rcases (s2 k hk17).v with hpl | ⟨p, ds, e1, e2, e3, e4, e5, e6⟩ | ⟨p, ks, ds, e1, e2, e3, e4, e5, e6⟩
    · have stays : μ16 Dl = some (.lst ((List.range 17).map d)) ∧ (∀ k, k < 17 → Hd a g Dl (5 + (i + 1)) 14 μ16 (d k)) ∧ (∃ qs, μ16 q = some (.lst qs) ∧ qs.length ≤ 5 + (i + 1)) ∧ Deck a g (65000 + 2 * ((i + 1 : Nat) : Int)) μ16 :=
        ⟨s1, fun k hk => (s2 k hk).up (by omega) (Nat.le_refl _), ⟨qs, s3, by omega⟩, D17.mono (by omega)⟩
      clear s1 s2 s3 s4 D17
      generalize d k = x at hpl stays ⊢
      rcases hpl with rfl | ⟨b, rfl⟩ | ⟨b, rfl⟩ | ⟨b, rfl⟩ | ⟨b, rfl⟩
      all_goals
        walk_at "dz"
        exact ⟨_, _, _, _, rfl, stays⟩
    · rw [e1]
      have tl : tyM μ16 (.at p) = some "list" := by unfold tyM; dsimp only; rw [e2]
      walk_at "dx"
      refine cax_is tl kit_list_list ?_
      walk_at "dz"
      refine evx_app ?_
      walk_at "dx"
      refine ⟨p, _, rfl, e2, ?_⟩
      walk_at "dx"
      refine ⟨a, g, _, 1000, rfl, D17, by omega, by decide, by decide, fun μ17 y hy0 hy1 D18 B18 => ?_⟩
      have K18 := B18.keep
      have e7 := K18 p _ e4 e5 e2
      refine ⟨ds, e7, by omega, ?_⟩
      have tl2 : tyM (mput μ17 p (.lst (ds ++ [.int y]))) (.at p) = some "list" := by unfold tyM; dsimp only; rw [mput_same]
      walk_at "dx"
      refine cax_is tl2 kit_list_dict ?_
      walk_at "dz"
      refine ⟨_, _, _, _, rfl, by rw [mput_ne (Ne.symm e6)]; exact K18 Dl _ ha1 ha2 s1, fun k hk => ((s2 k hk).keep D17 D18 K18 ha1 ha2).app e6 e7, ?_, S.mono (S.put D18 e4 e5) (by rw [Int.natCast_add]; omega)⟩
      have s5 := K18 q _ hq1.1 hq1.2 s3
      by_cases hpq : q = p
      · rw [hpq]
        rw [hpq, e7] at s5; cases s5
        exact ⟨_, mput_same, by rw [List.length_append, List.length_singleton]; omega⟩
      · exact ⟨qs, by rw [mput_ne hpq]; exact s5, by omega⟩
    · rw [e1]
      have tl : tyM μ16 (.at p) = some "dict" := by unfold tyM; dsimp only; rw [e2]
      walk_at "dx"
      refine cax_is tl kit_dict_list ?_
      walk_at "dz"
      refine cax_is tl kit_dict_dict ?_
      walk_at "dz"
      refine gs_dput ?_
      walk_at "dx"
      refine ⟨a, g, _, 1000, rfl, D17, by omega, by decide, by decide, fun μ17 y hy0 hy1 D18 B18 => ?_⟩
      have K18 := B18.keep
      have e7 := K18 p _ e4 e5 e2
      walk_at "dx"
      refine ⟨p, ks, ds, .inr (Str.ofString "more"), rfl, rfl, e7, by omega, ?_⟩
      refine ⟨_, _, _, _, rfl, by rw [mput_ne (Ne.symm e6)]; exact K18 Dl _ ha1 ha2 s1, fun k hk => ((s2 k hk).keep D17 D18 K18 ha1 ha2).dput e6 e7, ?_, S.mono (S.put D18 e4 e5) (by rw [Int.natCast_add]; omega)⟩
      have s5 := K18 q _ hq1.1 hq1.2 s3
      have hpq : q ≠ p := fun z => by rw [z, e7] at s5; cases s5
      exact ⟨qs, by rw [mput_ne hpq]; exact s5, by omega⟩
  rintro μ16 ρ16 ⟨u2, u8, u9, u10, rfl, s1, s2, ⟨qs, s3, s4⟩, D17⟩
  rw [List.length_map, List.length_range] at s2 s4
  clear r15 f14 e14 D16
  walk_at "dx"
  refine evx_app ?_
  walk_at "dx"
  refine ⟨q, _, rfl, s3, ?_⟩
  walk_at "dx"
  refine ⟨qs, s3, by omega, ?_⟩
  have r15 : ∀ k, k < 17 → Hd a g Dl (5 + 17 + 1) 14 (mput μ16 q (.lst (qs ++ [.int 7]))) (d k) := fun k hk => (s2 k hk).app hqD s3
  have f14 : mput μ16 q (.lst (qs ++ [.int 7])) Dl = some (.lst ((List.range 17).map d)) := by rw [mput_ne (Ne.symm hqD)]; exact s1
  generalize mput μ16 q (.lst (qs ++ [.int 7])) = μ17 at r15 f14 ⊢
  clear s1 s2 s3 s4 D17
  walk_at "dx"
  refine gs_for (itx_list ?_)
  walk_at "dx"
  refine ⟨_, _, isL_lst, ?_⟩
  refine ⟨fun i μ' ρ' => μ' = μ17 ∧ ∃ (u2 u8 u9 u10 : Option D), ρ' = [some (.frz (ns.map D.int)), some (.at a), u2, some (.at Dl), some (.at q), some (.at r), some (.int (plN : Int)), some (.lst [.lst (errsD cl d), .lst (errsD cl d)]), u8, u9, u10], ⟨rfl, _, _, _, _, rfl⟩, fun _ _ _ _ _ => True.intro, ?_, ?_⟩
  · rintro i x μ18 ρ18 hx ⟨rfl, u2, u8, u9, u10, rfl⟩
    cases two hx
    walk_at "dx"
    refine gs_for (itx_range1 ?_)
    walk_at "dx"
    refine ⟨⟨by omega, by omega⟩, ?_⟩
    refine ⟨fun i μ' ρ' => μ' = μ18 ∧ ∃ (u2 u9 u10 : Option D), ρ' = [some (.frz (ns.map D.int)), some (.at a), u2, some (.at Dl), some (.at q), some (.at r), some (.int (plN : Int)), some (.lst [.lst (errsD cl d), .lst (errsD cl d)]), some (.lst (errsD cl d)), u9, u10], ⟨rfl, _, _, _, rfl⟩, fun _ _ _ _ _ => True.intro, ?_, ?_⟩
    · rintro k x μ19 ρ19 hx ⟨rfl, u2, u9, u10, rfl⟩
      obtain ⟨hk, rfl⟩ := rangeD_get hx
      have hk17 : k < 17 := by omega
      rw [Int.zero_add]
      have hEk := hE k hk17
      have hHk := hH k hk17
      walk_at "dn"
      refine gs_if (evb_not (evb_B (evx_callY 20 ?_)))
      walk_at "dx"
      refine ⟨T k hk17, ?_⟩
      walk_at "dx"
      refine ⟨_, rfl, (fine_uncut (r15 k hk17).f).up (by decide), rfl, true, rfl, ?_⟩
      walk_at "dz"
      exact ⟨_, _, _, rfl⟩
    · rintro μ19 ρ19 ⟨rfl, u2, u9, u10, rfl⟩
      walk_at "dx"
      exact ⟨_, _, _, _, rfl⟩
  rintro μ18 ρ18 ⟨rfl, u2, u8, u9, u10, rfl⟩
  walk_at "dx"
  exact hp _
end
theorem kit_of_any {K : PySem.W.Frag} {t : Value} : ∀ {cs : List Value}, PySem.W.kitAny K t cs = some false → ∀ c ∈ cs, PySem.W.kitOne K t c = some false
  | [], _, c, h => nomatch h
  | c :: r, e, d, h => by
    have e2 : (match PySem.W.kitOne K t c with | some true => some true | some false => PySem.W.kitAny K t r | none => none) = some false := e
    cases q : PySem.W.kitOne K t c with
    | none => rw [q] at e2; exact nomatch e2
    | some b =>
      cases b with
      | true => rw [q] at e2; exact nomatch e2
      | false =>
        rw [q] at e2
        rcases List.mem_cons.mp h with rfl | h
        · exact q
        · exact kit_of_any e2 d h
theorem kinds_F {K : PySem.W.Frag} {cl : Nat → Addr} (Y : ∀ k, k < 17 → PySem.W.kitAny K (.ref (cl k)) (((List.range 16).filter fun j => j + 1 ≠ k).map fun j => .ref (cl (j + 1))) = some false) : ∀ k, k < 17 → ∀ j, j < 16 → PySem.W.kitOne K (.ref (cl k)) (.ref (cl (j + 1))) = some (decide (k = j + 1)) := fun k hk j hj => by
  by_cases h : k = j + 1
  · rw [decide_eq_true h, h]; exact kit_self
  · rw [decide_eq_false h]
    exact kit_of_any (Y k hk) _ (List.mem_map.mpr ⟨j, List.mem_filter.mpr ⟨List.mem_range.mpr hj, decide_eq_true (Ne.symm h)⟩, rfl⟩)
theorem law_end : ∀ ns : List Int, ns.length ≤ 63 → (∀ n ∈ ns, n.natAbs < 2 ^ 1048576) → P_law (fun _ => none) [.frz (ns.map D.int)] (fun _ d => d = .bl true) excN := fun ns hl hb => ⟨ns, rfl, hl, hb, fun _ => rfl⟩
theorem all_mk {P : Program} {w : World} {K : PySem.W.Frag} {h : Heap} {mg : Str → Option Value} {fa : Addr} (X : K.In h) (G : h.Ns mainGlobals mg) (hfa : mg "law" = some (.ref fa))
  {f__law_deck : Addr} {od__law_deck an__law_deck : Option Addr} {sl__law_deck : Array (Option Value)} {oc__law_deck kV__law_deck dc__law_deck pm__law_deck cd__law_deck ct__law_deck : Value}
  {f__law_draw : Addr} {od__law_draw an__law_draw : Option Addr} {sl__law_draw : Array (Option Value)} {oc__law_draw kV__law_draw dc__law_draw pm__law_draw cd__law_draw ct__law_draw : Value}
  {f__law_text : Addr} {od__law_text an__law_text : Option Addr} {sl__law_text : Array (Option Value)} {oc__law_text kV__law_text dc__law_text pm__law_text cd__law_text ct__law_text : Value}
  {f__law_value : Addr} {od__law_value an__law_value : Option Addr} {sl__law_value : Array (Option Value)} {oc__law_value kV__law_value dc__law_value pm__law_value cd__law_value ct__law_value : Value}
  {f__law_alike : Addr} {od__law_alike an__law_alike : Option Addr} {sl__law_alike : Array (Option Value)} {oc__law_alike kV__law_alike dc__law_alike pm__law_alike cd__law_alike ct__law_alike : Value}
  {f__law_made : Addr} {od__law_made an__law_made : Option Addr} {sl__law_made : Array (Option Value)} {oc__law_made kV__law_made dc__law_made pm__law_made cd__law_made ct__law_made : Value}
  {f__law_named : Addr} {od__law_named an__law_named : Option Addr} {sl__law_named : Array (Option Value)} {oc__law_named kV__law_named dc__law_named pm__law_named cd__law_named ct__law_named : Value}
  {f__law_kinds : Addr} {od__law_kinds an__law_kinds : Option Addr} {sl__law_kinds : Array (Option Value)} {oc__law_kinds kV__law_kinds dc__law_kinds pm__law_kinds cd__law_kinds ct__law_kinds : Value}
  {f_law : Addr} {od_law an_law : Option Addr} {sl_law : Array (Option Value)} {oc_law kV_law dc_law pm_law cd_law ct_law : Value}
  {fI : Addr} {odI anI : Option Addr} {slI : Array (Option Value)} {ocI kVI dcI pmI cdI ctI : Value}
  {A_WorthError : Addr} {nm_WorthError qn_WorthError : Str} {N_WorthError : Addr} {bs_WorthError bm_WorthError : List Value} {sn_WorthError : List Str} {sub_WorthError : List Value} {ab_WorthError : Bool} {col_WorthError : Option Bool} {dd_WorthError : Option Addr} {m0_WorthError m1_WorthError m2_WorthError m3_WorthError m5_WorthError : Option Value}
  {A_InvalidNumber : Addr} {nm_InvalidNumber qn_InvalidNumber : Str} {N_InvalidNumber : Addr} {bs_InvalidNumber bm_InvalidNumber : List Value} {sn_InvalidNumber : List Str} {sub_InvalidNumber : List Value} {ab_InvalidNumber : Bool} {col_InvalidNumber : Option Bool} {dd_InvalidNumber : Option Addr} {m0_InvalidNumber m1_InvalidNumber m2_InvalidNumber m3_InvalidNumber m5_InvalidNumber : Option Value}
  {A_InvalidSigns : Addr} {nm_InvalidSigns qn_InvalidSigns : Str} {N_InvalidSigns : Addr} {bs_InvalidSigns bm_InvalidSigns : List Value} {sn_InvalidSigns : List Str} {sub_InvalidSigns : List Value} {ab_InvalidSigns : Bool} {col_InvalidSigns : Option Bool} {dd_InvalidSigns : Option Addr} {m0_InvalidSigns m1_InvalidSigns m2_InvalidSigns m3_InvalidSigns m5_InvalidSigns : Option Value}
  {A_UnknownSign : Addr} {nm_UnknownSign qn_UnknownSign : Str} {N_UnknownSign : Addr} {bs_UnknownSign bm_UnknownSign : List Value} {sn_UnknownSign : List Str} {sub_UnknownSign : List Value} {ab_UnknownSign : Bool} {col_UnknownSign : Option Bool} {dd_UnknownSign : Option Addr} {m0_UnknownSign m1_UnknownSign m2_UnknownSign m3_UnknownSign m5_UnknownSign : Option Value}
  {A_InvalidMachine : Addr} {nm_InvalidMachine qn_InvalidMachine : Str} {N_InvalidMachine : Addr} {bs_InvalidMachine bm_InvalidMachine : List Value} {sn_InvalidMachine : List Str} {sub_InvalidMachine : List Value} {ab_InvalidMachine : Bool} {col_InvalidMachine : Option Bool} {dd_InvalidMachine : Option Addr} {m0_InvalidMachine m1_InvalidMachine m2_InvalidMachine m3_InvalidMachine m5_InvalidMachine : Option Value}
  {A_UnlikeSigns : Addr} {nm_UnlikeSigns qn_UnlikeSigns : Str} {N_UnlikeSigns : Addr} {bs_UnlikeSigns bm_UnlikeSigns : List Value} {sn_UnlikeSigns : List Str} {sub_UnlikeSigns : List Value} {ab_UnlikeSigns : Bool} {col_UnlikeSigns : Option Bool} {dd_UnlikeSigns : Option Addr} {m0_UnlikeSigns m1_UnlikeSigns m2_UnlikeSigns m3_UnlikeSigns m5_UnlikeSigns : Option Value}
  {A_Endless : Addr} {nm_Endless qn_Endless : Str} {N_Endless : Addr} {bs_Endless bm_Endless : List Value} {sn_Endless : List Str} {sub_Endless : List Value} {ab_Endless : Bool} {col_Endless : Option Bool} {dd_Endless : Option Addr} {m0_Endless m1_Endless m2_Endless m3_Endless m5_Endless : Option Value}
  {A_InvalidPattern : Addr} {nm_InvalidPattern qn_InvalidPattern : Str} {N_InvalidPattern : Addr} {bs_InvalidPattern bm_InvalidPattern : List Value} {sn_InvalidPattern : List Str} {sub_InvalidPattern : List Value} {ab_InvalidPattern : Bool} {col_InvalidPattern : Option Bool} {dd_InvalidPattern : Option Addr} {m0_InvalidPattern m1_InvalidPattern m2_InvalidPattern m3_InvalidPattern m5_InvalidPattern : Option Value}
  {A_InvalidBook : Addr} {nm_InvalidBook qn_InvalidBook : Str} {N_InvalidBook : Addr} {bs_InvalidBook bm_InvalidBook : List Value} {sn_InvalidBook : List Str} {sub_InvalidBook : List Value} {ab_InvalidBook : Bool} {col_InvalidBook : Option Bool} {dd_InvalidBook : Option Addr} {m0_InvalidBook m1_InvalidBook m2_InvalidBook m3_InvalidBook m5_InvalidBook : Option Value}
  {A_InvalidName : Addr} {nm_InvalidName qn_InvalidName : Str} {N_InvalidName : Addr} {bs_InvalidName bm_InvalidName : List Value} {sn_InvalidName : List Str} {sub_InvalidName : List Value} {ab_InvalidName : Bool} {col_InvalidName : Option Bool} {dd_InvalidName : Option Addr} {m0_InvalidName m1_InvalidName m2_InvalidName m3_InvalidName m5_InvalidName : Option Value}
  {A_DoubleName : Addr} {nm_DoubleName qn_DoubleName : Str} {N_DoubleName : Addr} {bs_DoubleName bm_DoubleName : List Value} {sn_DoubleName : List Str} {sub_DoubleName : List Value} {ab_DoubleName : Bool} {col_DoubleName : Option Bool} {dd_DoubleName : Option Addr} {m0_DoubleName m1_DoubleName m2_DoubleName m3_DoubleName m5_DoubleName : Option Value}
  {A_UnknownName : Addr} {nm_UnknownName qn_UnknownName : Str} {N_UnknownName : Addr} {bs_UnknownName bm_UnknownName : List Value} {sn_UnknownName : List Str} {sub_UnknownName : List Value} {ab_UnknownName : Bool} {col_UnknownName : Option Bool} {dd_UnknownName : Option Addr} {m0_UnknownName m1_UnknownName m2_UnknownName m3_UnknownName m5_UnknownName : Option Value}
  {A_InvalidNote : Addr} {nm_InvalidNote qn_InvalidNote : Str} {N_InvalidNote : Addr} {bs_InvalidNote bm_InvalidNote : List Value} {sn_InvalidNote : List Str} {sub_InvalidNote : List Value} {ab_InvalidNote : Bool} {col_InvalidNote : Option Bool} {dd_InvalidNote : Option Addr} {m0_InvalidNote m1_InvalidNote m2_InvalidNote m3_InvalidNote m5_InvalidNote : Option Value}
  {A_InvalidSource : Addr} {nm_InvalidSource qn_InvalidSource : Str} {N_InvalidSource : Addr} {bs_InvalidSource bm_InvalidSource : List Value} {sn_InvalidSource : List Str} {sub_InvalidSource : List Value} {ab_InvalidSource : Bool} {col_InvalidSource : Option Bool} {dd_InvalidSource : Option Addr} {m0_InvalidSource m1_InvalidSource m2_InvalidSource m3_InvalidSource m5_InvalidSource : Option Value}
  {A_NoChance : Addr} {nm_NoChance qn_NoChance : Str} {N_NoChance : Addr} {bs_NoChance bm_NoChance : List Value} {sn_NoChance : List Str} {sub_NoChance : List Value} {ab_NoChance : Bool} {col_NoChance : Option Bool} {dd_NoChance : Option Addr} {m0_NoChance m1_NoChance m2_NoChance m3_NoChance m5_NoChance : Option Value}
  {A_NothingToUndo : Addr} {nm_NothingToUndo qn_NothingToUndo : Str} {N_NothingToUndo : Addr} {bs_NothingToUndo bm_NothingToUndo : List Value} {sn_NothingToUndo : List Str} {sub_NothingToUndo : List Value} {ab_NothingToUndo : Bool} {col_NothingToUndo : Option Bool} {dd_NothingToUndo : Option Addr} {m0_NothingToUndo m1_NothingToUndo m2_NothingToUndo m3_NothingToUndo m5_NothingToUndo : Option Value}
  {A_Unreadable : Addr} {nm_Unreadable qn_Unreadable : Str} {N_Unreadable : Addr} {bs_Unreadable bm_Unreadable : List Value} {sn_Unreadable : List Str} {sub_Unreadable : List Value} {ab_Unreadable : Bool} {col_Unreadable : Option Bool} {dd_Unreadable : Option Addr} {m0_Unreadable m1_Unreadable m2_Unreadable m3_Unreadable m5_Unreadable : Option Value}
  (a__law_deck : PySem.W.nsIn K mainGlobals "_law_deck" = some (some (.ref f__law_deck)))
  (l__law_deck : K.lookup f__law_deck = some ⟨oc__law_deck, od__law_deck, .func (PySem.W.fnOf "_law_deck" "_law_deck" (defArgs s__law_deck) (defBody s__law_deck) (defScope s__law_deck) .none kV__law_deck dc__law_deck pm__law_deck an__law_deck cd__law_deck ct__law_deck), sl__law_deck⟩)
  (q__law_deck : PySem.W.codeIn K cd__law_deck "_law_deck" = true)
  (k__law_deck : PySem.W.keepIn K (.ref f__law_deck) = true)
  (a__law_draw : PySem.W.nsIn K mainGlobals "_law_draw" = some (some (.ref f__law_draw)))
  (l__law_draw : K.lookup f__law_draw = some ⟨oc__law_draw, od__law_draw, .func (PySem.W.fnOf "_law_draw" "_law_draw" (defArgs s__law_draw) (defBody s__law_draw) (defScope s__law_draw) .none kV__law_draw dc__law_draw pm__law_draw an__law_draw cd__law_draw ct__law_draw), sl__law_draw⟩)
  (q__law_draw : PySem.W.codeIn K cd__law_draw "_law_draw" = true)
  (k__law_draw : PySem.W.keepIn K (.ref f__law_draw) = true)
  (a__law_text : PySem.W.nsIn K mainGlobals "_law_text" = some (some (.ref f__law_text)))
  (l__law_text : K.lookup f__law_text = some ⟨oc__law_text, od__law_text, .func (PySem.W.fnOf "_law_text" "_law_text" (defArgs s__law_text) (defBody s__law_text) (defScope s__law_text) .none kV__law_text dc__law_text pm__law_text an__law_text cd__law_text ct__law_text), sl__law_text⟩)
  (q__law_text : PySem.W.codeIn K cd__law_text "_law_text" = true)
  (k__law_text : PySem.W.keepIn K (.ref f__law_text) = true)
  (a__law_value : PySem.W.nsIn K mainGlobals "_law_value" = some (some (.ref f__law_value)))
  (l__law_value : K.lookup f__law_value = some ⟨oc__law_value, od__law_value, .func (PySem.W.fnOf "_law_value" "_law_value" (defArgs s__law_value) (defBody s__law_value) (defScope s__law_value) .none kV__law_value dc__law_value pm__law_value an__law_value cd__law_value ct__law_value), sl__law_value⟩)
  (q__law_value : PySem.W.codeIn K cd__law_value "_law_value" = true)
  (k__law_value : PySem.W.keepIn K (.ref f__law_value) = true)
  (a__law_alike : PySem.W.nsIn K mainGlobals "_law_alike" = some (some (.ref f__law_alike)))
  (l__law_alike : K.lookup f__law_alike = some ⟨oc__law_alike, od__law_alike, .func (PySem.W.fnOf "_law_alike" "_law_alike" (defArgs s__law_alike) (defBody s__law_alike) (defScope s__law_alike) .none kV__law_alike dc__law_alike pm__law_alike an__law_alike cd__law_alike ct__law_alike), sl__law_alike⟩)
  (q__law_alike : PySem.W.codeIn K cd__law_alike "_law_alike" = true)
  (k__law_alike : PySem.W.keepIn K (.ref f__law_alike) = true)
  (a__law_made : PySem.W.nsIn K mainGlobals "_law_made" = some (some (.ref f__law_made)))
  (l__law_made : K.lookup f__law_made = some ⟨oc__law_made, od__law_made, .func (PySem.W.fnOf "_law_made" "_law_made" (defArgs s__law_made) (defBody s__law_made) (defScope s__law_made) .none kV__law_made dc__law_made pm__law_made an__law_made cd__law_made ct__law_made), sl__law_made⟩)
  (q__law_made : PySem.W.codeIn K cd__law_made "_law_made" = true)
  (k__law_made : PySem.W.keepIn K (.ref f__law_made) = true)
  (a__law_named : PySem.W.nsIn K mainGlobals "_law_named" = some (some (.ref f__law_named)))
  (l__law_named : K.lookup f__law_named = some ⟨oc__law_named, od__law_named, .func (PySem.W.fnOf "_law_named" "_law_named" (defArgs s__law_named) (defBody s__law_named) (defScope s__law_named) .none kV__law_named dc__law_named pm__law_named an__law_named cd__law_named ct__law_named), sl__law_named⟩)
  (q__law_named : PySem.W.codeIn K cd__law_named "_law_named" = true)
  (k__law_named : PySem.W.keepIn K (.ref f__law_named) = true)
  (a__law_kinds : PySem.W.nsIn K mainGlobals "_law_kinds" = some (some (.ref f__law_kinds)))
  (l__law_kinds : K.lookup f__law_kinds = some ⟨oc__law_kinds, od__law_kinds, .func (PySem.W.fnOf "_law_kinds" "_law_kinds" (defArgs s__law_kinds) (defBody s__law_kinds) (defScope s__law_kinds) .none kV__law_kinds dc__law_kinds pm__law_kinds an__law_kinds cd__law_kinds ct__law_kinds), sl__law_kinds⟩)
  (q__law_kinds : PySem.W.codeIn K cd__law_kinds "_law_kinds" = true)
  (k__law_kinds : PySem.W.keepIn K (.ref f__law_kinds) = true)
  (a_law : PySem.W.nsIn K mainGlobals "law" = some (some (.ref f_law)))
  (l_law : K.lookup f_law = some ⟨oc_law, od_law, .func (PySem.W.fnOf "law" "law" (defArgs s_law) (defBody s_law) (defScope s_law) .none kV_law dc_law pm_law an_law cd_law ct_law), sl_law⟩)
  (q_law : PySem.W.codeIn K cd_law "law" = true)
  (k_law : PySem.W.keepIn K (.ref f_law) = true)
  (z_int : PySem.W.nsIn K mainGlobals "int" = some none)
  (z_isinstance : PySem.W.nsIn K mainGlobals "isinstance" = some none)
  (z_list : PySem.W.nsIn K mainGlobals "list" = some none)
  (z_dict : PySem.W.nsIn K mainGlobals "dict" = some none)
  (z_tuple : PySem.W.nsIn K mainGlobals "tuple" = some none)
  (z_len : PySem.W.nsIn K mainGlobals "len" = some none)
  (z_str : PySem.W.nsIn K mainGlobals "str" = some none)
  (z_bool : PySem.W.nsIn K mainGlobals "bool" = some none)
  (z_zip : PySem.W.nsIn K mainGlobals "zip" = some none)
  (z_range : PySem.W.nsIn K mainGlobals "range" = some none)
  (z_ValueError : PySem.W.nsIn K mainGlobals "ValueError" = some none)
  (aC_WorthError : PySem.W.nsIn K mainGlobals "WorthError" = some (some (.ref A_WorthError)))
  (xC_WorthError : K.lookup A_WorthError = some (excClassObj nm_WorthError qn_WorthError A_WorthError N_WorthError bs_WorthError bm_WorthError true sn_WorthError sub_WorthError ab_WorthError col_WorthError dd_WorthError m0_WorthError m1_WorthError m2_WorthError m3_WorthError m5_WorthError "ValueError.__new__"))
  (rC_WorthError : PySem.HandSPX.refsVE bm_WorthError = true)
  (sa_WorthError : PySem.W.findIn K (.ref A_WorthError) "__setattr__" = some (some (.builtin "object.__setattr__")))
  (eC_WorthError : PySem.W.subIn K (.ref A_WorthError) (.type "BaseException") = some true)
  (tC_WorthError : PySem.W.typeIn K (.ref A_WorthError) = some (.type "type"))
  (kC_WorthError : PySem.W.keepIn K (.ref A_WorthError) = true)
  (nv_WorthError : PySem.W.findIn K (.ref A_WorthError) "value" = some none)
  (ga_WorthError : PySem.W.findIn K (.ref A_WorthError) "__getattribute__" = some (some (.builtin "BaseException.__getattribute__")))
  (gg_WorthError : PySem.W.findIn K (.ref A_WorthError) "__getattr__" = some none)
  (hd_WorthError : PySem.W.hasDictIn K A_WorthError = true)
  (ha_WorthError : PySem.W.findIn K (.ref A_WorthError) "__class__" = some (some (.builtin "object.__class__")))
  (hm_WorthError : PySem.W.mroIn K A_WorthError (.type "object") = some true)
  (iI_WorthError : PySem.W.findIn K (.ref A_WorthError) "__init__" = some (some (.ref fI)))
  (aC_InvalidNumber : PySem.W.nsIn K mainGlobals "InvalidNumber" = some (some (.ref A_InvalidNumber)))
  (xC_InvalidNumber : K.lookup A_InvalidNumber = some (excClassObj nm_InvalidNumber qn_InvalidNumber A_InvalidNumber N_InvalidNumber bs_InvalidNumber bm_InvalidNumber true sn_InvalidNumber sub_InvalidNumber ab_InvalidNumber col_InvalidNumber dd_InvalidNumber m0_InvalidNumber m1_InvalidNumber m2_InvalidNumber m3_InvalidNumber m5_InvalidNumber "ValueError.__new__"))
  (rC_InvalidNumber : PySem.HandSPX.refsVE bm_InvalidNumber = true)
  (sa_InvalidNumber : PySem.W.findIn K (.ref A_InvalidNumber) "__setattr__" = some (some (.builtin "object.__setattr__")))
  (eC_InvalidNumber : PySem.W.subIn K (.ref A_InvalidNumber) (.type "BaseException") = some true)
  (tC_InvalidNumber : PySem.W.typeIn K (.ref A_InvalidNumber) = some (.type "type"))
  (kC_InvalidNumber : PySem.W.keepIn K (.ref A_InvalidNumber) = true)
  (nv_InvalidNumber : PySem.W.findIn K (.ref A_InvalidNumber) "value" = some none)
  (ga_InvalidNumber : PySem.W.findIn K (.ref A_InvalidNumber) "__getattribute__" = some (some (.builtin "BaseException.__getattribute__")))
  (gg_InvalidNumber : PySem.W.findIn K (.ref A_InvalidNumber) "__getattr__" = some none)
  (hd_InvalidNumber : PySem.W.hasDictIn K A_InvalidNumber = true)
  (ha_InvalidNumber : PySem.W.findIn K (.ref A_InvalidNumber) "__class__" = some (some (.builtin "object.__class__")))
  (hm_InvalidNumber : PySem.W.mroIn K A_InvalidNumber (.type "object") = some true)
  (iI_InvalidNumber : PySem.W.findIn K (.ref A_InvalidNumber) "__init__" = some (some (.ref fI)))
  (aC_InvalidSigns : PySem.W.nsIn K mainGlobals "InvalidSigns" = some (some (.ref A_InvalidSigns)))
  (xC_InvalidSigns : K.lookup A_InvalidSigns = some (excClassObj nm_InvalidSigns qn_InvalidSigns A_InvalidSigns N_InvalidSigns bs_InvalidSigns bm_InvalidSigns true sn_InvalidSigns sub_InvalidSigns ab_InvalidSigns col_InvalidSigns dd_InvalidSigns m0_InvalidSigns m1_InvalidSigns m2_InvalidSigns m3_InvalidSigns m5_InvalidSigns "ValueError.__new__"))
  (rC_InvalidSigns : PySem.HandSPX.refsVE bm_InvalidSigns = true)
  (sa_InvalidSigns : PySem.W.findIn K (.ref A_InvalidSigns) "__setattr__" = some (some (.builtin "object.__setattr__")))
  (eC_InvalidSigns : PySem.W.subIn K (.ref A_InvalidSigns) (.type "BaseException") = some true)
  (tC_InvalidSigns : PySem.W.typeIn K (.ref A_InvalidSigns) = some (.type "type"))
  (kC_InvalidSigns : PySem.W.keepIn K (.ref A_InvalidSigns) = true)
  (nv_InvalidSigns : PySem.W.findIn K (.ref A_InvalidSigns) "value" = some none)
  (ga_InvalidSigns : PySem.W.findIn K (.ref A_InvalidSigns) "__getattribute__" = some (some (.builtin "BaseException.__getattribute__")))
  (gg_InvalidSigns : PySem.W.findIn K (.ref A_InvalidSigns) "__getattr__" = some none)
  (hd_InvalidSigns : PySem.W.hasDictIn K A_InvalidSigns = true)
  (ha_InvalidSigns : PySem.W.findIn K (.ref A_InvalidSigns) "__class__" = some (some (.builtin "object.__class__")))
  (hm_InvalidSigns : PySem.W.mroIn K A_InvalidSigns (.type "object") = some true)
  (iI_InvalidSigns : PySem.W.findIn K (.ref A_InvalidSigns) "__init__" = some (some (.ref fI)))
  (aC_UnknownSign : PySem.W.nsIn K mainGlobals "UnknownSign" = some (some (.ref A_UnknownSign)))
  (xC_UnknownSign : K.lookup A_UnknownSign = some (excClassObj nm_UnknownSign qn_UnknownSign A_UnknownSign N_UnknownSign bs_UnknownSign bm_UnknownSign true sn_UnknownSign sub_UnknownSign ab_UnknownSign col_UnknownSign dd_UnknownSign m0_UnknownSign m1_UnknownSign m2_UnknownSign m3_UnknownSign m5_UnknownSign "ValueError.__new__"))
  (rC_UnknownSign : PySem.HandSPX.refsVE bm_UnknownSign = true)
  (sa_UnknownSign : PySem.W.findIn K (.ref A_UnknownSign) "__setattr__" = some (some (.builtin "object.__setattr__")))
  (eC_UnknownSign : PySem.W.subIn K (.ref A_UnknownSign) (.type "BaseException") = some true)
  (tC_UnknownSign : PySem.W.typeIn K (.ref A_UnknownSign) = some (.type "type"))
  (kC_UnknownSign : PySem.W.keepIn K (.ref A_UnknownSign) = true)
  (nv_UnknownSign : PySem.W.findIn K (.ref A_UnknownSign) "value" = some none)
  (ga_UnknownSign : PySem.W.findIn K (.ref A_UnknownSign) "__getattribute__" = some (some (.builtin "BaseException.__getattribute__")))
  (gg_UnknownSign : PySem.W.findIn K (.ref A_UnknownSign) "__getattr__" = some none)
  (hd_UnknownSign : PySem.W.hasDictIn K A_UnknownSign = true)
  (ha_UnknownSign : PySem.W.findIn K (.ref A_UnknownSign) "__class__" = some (some (.builtin "object.__class__")))
  (hm_UnknownSign : PySem.W.mroIn K A_UnknownSign (.type "object") = some true)
  (iI_UnknownSign : PySem.W.findIn K (.ref A_UnknownSign) "__init__" = some (some (.ref fI)))
  (aC_InvalidMachine : PySem.W.nsIn K mainGlobals "InvalidMachine" = some (some (.ref A_InvalidMachine)))
  (xC_InvalidMachine : K.lookup A_InvalidMachine = some (excClassObj nm_InvalidMachine qn_InvalidMachine A_InvalidMachine N_InvalidMachine bs_InvalidMachine bm_InvalidMachine true sn_InvalidMachine sub_InvalidMachine ab_InvalidMachine col_InvalidMachine dd_InvalidMachine m0_InvalidMachine m1_InvalidMachine m2_InvalidMachine m3_InvalidMachine m5_InvalidMachine "ValueError.__new__"))
  (rC_InvalidMachine : PySem.HandSPX.refsVE bm_InvalidMachine = true)
  (sa_InvalidMachine : PySem.W.findIn K (.ref A_InvalidMachine) "__setattr__" = some (some (.builtin "object.__setattr__")))
  (eC_InvalidMachine : PySem.W.subIn K (.ref A_InvalidMachine) (.type "BaseException") = some true)
  (tC_InvalidMachine : PySem.W.typeIn K (.ref A_InvalidMachine) = some (.type "type"))
  (kC_InvalidMachine : PySem.W.keepIn K (.ref A_InvalidMachine) = true)
  (nv_InvalidMachine : PySem.W.findIn K (.ref A_InvalidMachine) "value" = some none)
  (ga_InvalidMachine : PySem.W.findIn K (.ref A_InvalidMachine) "__getattribute__" = some (some (.builtin "BaseException.__getattribute__")))
  (gg_InvalidMachine : PySem.W.findIn K (.ref A_InvalidMachine) "__getattr__" = some none)
  (hd_InvalidMachine : PySem.W.hasDictIn K A_InvalidMachine = true)
  (ha_InvalidMachine : PySem.W.findIn K (.ref A_InvalidMachine) "__class__" = some (some (.builtin "object.__class__")))
  (hm_InvalidMachine : PySem.W.mroIn K A_InvalidMachine (.type "object") = some true)
  (iI_InvalidMachine : PySem.W.findIn K (.ref A_InvalidMachine) "__init__" = some (some (.ref fI)))
  (aC_UnlikeSigns : PySem.W.nsIn K mainGlobals "UnlikeSigns" = some (some (.ref A_UnlikeSigns)))
  (xC_UnlikeSigns : K.lookup A_UnlikeSigns = some (excClassObj nm_UnlikeSigns qn_UnlikeSigns A_UnlikeSigns N_UnlikeSigns bs_UnlikeSigns bm_UnlikeSigns true sn_UnlikeSigns sub_UnlikeSigns ab_UnlikeSigns col_UnlikeSigns dd_UnlikeSigns m0_UnlikeSigns m1_UnlikeSigns m2_UnlikeSigns m3_UnlikeSigns m5_UnlikeSigns "ValueError.__new__"))
  (rC_UnlikeSigns : PySem.HandSPX.refsVE bm_UnlikeSigns = true)
  (sa_UnlikeSigns : PySem.W.findIn K (.ref A_UnlikeSigns) "__setattr__" = some (some (.builtin "object.__setattr__")))
  (eC_UnlikeSigns : PySem.W.subIn K (.ref A_UnlikeSigns) (.type "BaseException") = some true)
  (tC_UnlikeSigns : PySem.W.typeIn K (.ref A_UnlikeSigns) = some (.type "type"))
  (kC_UnlikeSigns : PySem.W.keepIn K (.ref A_UnlikeSigns) = true)
  (nv_UnlikeSigns : PySem.W.findIn K (.ref A_UnlikeSigns) "value" = some none)
  (ga_UnlikeSigns : PySem.W.findIn K (.ref A_UnlikeSigns) "__getattribute__" = some (some (.builtin "BaseException.__getattribute__")))
  (gg_UnlikeSigns : PySem.W.findIn K (.ref A_UnlikeSigns) "__getattr__" = some none)
  (hd_UnlikeSigns : PySem.W.hasDictIn K A_UnlikeSigns = true)
  (ha_UnlikeSigns : PySem.W.findIn K (.ref A_UnlikeSigns) "__class__" = some (some (.builtin "object.__class__")))
  (hm_UnlikeSigns : PySem.W.mroIn K A_UnlikeSigns (.type "object") = some true)
  (iI_UnlikeSigns : PySem.W.findIn K (.ref A_UnlikeSigns) "__init__" = some (some (.ref fI)))
  (aC_Endless : PySem.W.nsIn K mainGlobals "Endless" = some (some (.ref A_Endless)))
  (xC_Endless : K.lookup A_Endless = some (excClassObj nm_Endless qn_Endless A_Endless N_Endless bs_Endless bm_Endless true sn_Endless sub_Endless ab_Endless col_Endless dd_Endless m0_Endless m1_Endless m2_Endless m3_Endless m5_Endless "ValueError.__new__"))
  (rC_Endless : PySem.HandSPX.refsVE bm_Endless = true)
  (sa_Endless : PySem.W.findIn K (.ref A_Endless) "__setattr__" = some (some (.builtin "object.__setattr__")))
  (eC_Endless : PySem.W.subIn K (.ref A_Endless) (.type "BaseException") = some true)
  (tC_Endless : PySem.W.typeIn K (.ref A_Endless) = some (.type "type"))
  (kC_Endless : PySem.W.keepIn K (.ref A_Endless) = true)
  (nv_Endless : PySem.W.findIn K (.ref A_Endless) "value" = some none)
  (ga_Endless : PySem.W.findIn K (.ref A_Endless) "__getattribute__" = some (some (.builtin "BaseException.__getattribute__")))
  (gg_Endless : PySem.W.findIn K (.ref A_Endless) "__getattr__" = some none)
  (hd_Endless : PySem.W.hasDictIn K A_Endless = true)
  (ha_Endless : PySem.W.findIn K (.ref A_Endless) "__class__" = some (some (.builtin "object.__class__")))
  (hm_Endless : PySem.W.mroIn K A_Endless (.type "object") = some true)
  (iI_Endless : PySem.W.findIn K (.ref A_Endless) "__init__" = some (some (.ref fI)))
  (aC_InvalidPattern : PySem.W.nsIn K mainGlobals "InvalidPattern" = some (some (.ref A_InvalidPattern)))
  (xC_InvalidPattern : K.lookup A_InvalidPattern = some (excClassObj nm_InvalidPattern qn_InvalidPattern A_InvalidPattern N_InvalidPattern bs_InvalidPattern bm_InvalidPattern true sn_InvalidPattern sub_InvalidPattern ab_InvalidPattern col_InvalidPattern dd_InvalidPattern m0_InvalidPattern m1_InvalidPattern m2_InvalidPattern m3_InvalidPattern m5_InvalidPattern "ValueError.__new__"))
  (rC_InvalidPattern : PySem.HandSPX.refsVE bm_InvalidPattern = true)
  (sa_InvalidPattern : PySem.W.findIn K (.ref A_InvalidPattern) "__setattr__" = some (some (.builtin "object.__setattr__")))
  (eC_InvalidPattern : PySem.W.subIn K (.ref A_InvalidPattern) (.type "BaseException") = some true)
  (tC_InvalidPattern : PySem.W.typeIn K (.ref A_InvalidPattern) = some (.type "type"))
  (kC_InvalidPattern : PySem.W.keepIn K (.ref A_InvalidPattern) = true)
  (nv_InvalidPattern : PySem.W.findIn K (.ref A_InvalidPattern) "value" = some none)
  (ga_InvalidPattern : PySem.W.findIn K (.ref A_InvalidPattern) "__getattribute__" = some (some (.builtin "BaseException.__getattribute__")))
  (gg_InvalidPattern : PySem.W.findIn K (.ref A_InvalidPattern) "__getattr__" = some none)
  (hd_InvalidPattern : PySem.W.hasDictIn K A_InvalidPattern = true)
  (ha_InvalidPattern : PySem.W.findIn K (.ref A_InvalidPattern) "__class__" = some (some (.builtin "object.__class__")))
  (hm_InvalidPattern : PySem.W.mroIn K A_InvalidPattern (.type "object") = some true)
  (iI_InvalidPattern : PySem.W.findIn K (.ref A_InvalidPattern) "__init__" = some (some (.ref fI)))
  (aC_InvalidBook : PySem.W.nsIn K mainGlobals "InvalidBook" = some (some (.ref A_InvalidBook)))
  (xC_InvalidBook : K.lookup A_InvalidBook = some (excClassObj nm_InvalidBook qn_InvalidBook A_InvalidBook N_InvalidBook bs_InvalidBook bm_InvalidBook true sn_InvalidBook sub_InvalidBook ab_InvalidBook col_InvalidBook dd_InvalidBook m0_InvalidBook m1_InvalidBook m2_InvalidBook m3_InvalidBook m5_InvalidBook "ValueError.__new__"))
  (rC_InvalidBook : PySem.HandSPX.refsVE bm_InvalidBook = true)
  (sa_InvalidBook : PySem.W.findIn K (.ref A_InvalidBook) "__setattr__" = some (some (.builtin "object.__setattr__")))
  (eC_InvalidBook : PySem.W.subIn K (.ref A_InvalidBook) (.type "BaseException") = some true)
  (tC_InvalidBook : PySem.W.typeIn K (.ref A_InvalidBook) = some (.type "type"))
  (kC_InvalidBook : PySem.W.keepIn K (.ref A_InvalidBook) = true)
  (nv_InvalidBook : PySem.W.findIn K (.ref A_InvalidBook) "value" = some none)
  (ga_InvalidBook : PySem.W.findIn K (.ref A_InvalidBook) "__getattribute__" = some (some (.builtin "BaseException.__getattribute__")))
  (gg_InvalidBook : PySem.W.findIn K (.ref A_InvalidBook) "__getattr__" = some none)
  (hd_InvalidBook : PySem.W.hasDictIn K A_InvalidBook = true)
  (ha_InvalidBook : PySem.W.findIn K (.ref A_InvalidBook) "__class__" = some (some (.builtin "object.__class__")))
  (hm_InvalidBook : PySem.W.mroIn K A_InvalidBook (.type "object") = some true)
  (iI_InvalidBook : PySem.W.findIn K (.ref A_InvalidBook) "__init__" = some (some (.ref fI)))
  (aC_InvalidName : PySem.W.nsIn K mainGlobals "InvalidName" = some (some (.ref A_InvalidName)))
  (xC_InvalidName : K.lookup A_InvalidName = some (excClassObj nm_InvalidName qn_InvalidName A_InvalidName N_InvalidName bs_InvalidName bm_InvalidName true sn_InvalidName sub_InvalidName ab_InvalidName col_InvalidName dd_InvalidName m0_InvalidName m1_InvalidName m2_InvalidName m3_InvalidName m5_InvalidName "ValueError.__new__"))
  (rC_InvalidName : PySem.HandSPX.refsVE bm_InvalidName = true)
  (sa_InvalidName : PySem.W.findIn K (.ref A_InvalidName) "__setattr__" = some (some (.builtin "object.__setattr__")))
  (eC_InvalidName : PySem.W.subIn K (.ref A_InvalidName) (.type "BaseException") = some true)
  (tC_InvalidName : PySem.W.typeIn K (.ref A_InvalidName) = some (.type "type"))
  (kC_InvalidName : PySem.W.keepIn K (.ref A_InvalidName) = true)
  (nv_InvalidName : PySem.W.findIn K (.ref A_InvalidName) "value" = some none)
  (ga_InvalidName : PySem.W.findIn K (.ref A_InvalidName) "__getattribute__" = some (some (.builtin "BaseException.__getattribute__")))
  (gg_InvalidName : PySem.W.findIn K (.ref A_InvalidName) "__getattr__" = some none)
  (hd_InvalidName : PySem.W.hasDictIn K A_InvalidName = true)
  (ha_InvalidName : PySem.W.findIn K (.ref A_InvalidName) "__class__" = some (some (.builtin "object.__class__")))
  (hm_InvalidName : PySem.W.mroIn K A_InvalidName (.type "object") = some true)
  (iI_InvalidName : PySem.W.findIn K (.ref A_InvalidName) "__init__" = some (some (.ref fI)))
  (aC_DoubleName : PySem.W.nsIn K mainGlobals "DoubleName" = some (some (.ref A_DoubleName)))
  (xC_DoubleName : K.lookup A_DoubleName = some (excClassObj nm_DoubleName qn_DoubleName A_DoubleName N_DoubleName bs_DoubleName bm_DoubleName true sn_DoubleName sub_DoubleName ab_DoubleName col_DoubleName dd_DoubleName m0_DoubleName m1_DoubleName m2_DoubleName m3_DoubleName m5_DoubleName "ValueError.__new__"))
  (rC_DoubleName : PySem.HandSPX.refsVE bm_DoubleName = true)
  (sa_DoubleName : PySem.W.findIn K (.ref A_DoubleName) "__setattr__" = some (some (.builtin "object.__setattr__")))
  (eC_DoubleName : PySem.W.subIn K (.ref A_DoubleName) (.type "BaseException") = some true)
  (tC_DoubleName : PySem.W.typeIn K (.ref A_DoubleName) = some (.type "type"))
  (kC_DoubleName : PySem.W.keepIn K (.ref A_DoubleName) = true)
  (nv_DoubleName : PySem.W.findIn K (.ref A_DoubleName) "value" = some none)
  (ga_DoubleName : PySem.W.findIn K (.ref A_DoubleName) "__getattribute__" = some (some (.builtin "BaseException.__getattribute__")))
  (gg_DoubleName : PySem.W.findIn K (.ref A_DoubleName) "__getattr__" = some none)
  (hd_DoubleName : PySem.W.hasDictIn K A_DoubleName = true)
  (ha_DoubleName : PySem.W.findIn K (.ref A_DoubleName) "__class__" = some (some (.builtin "object.__class__")))
  (hm_DoubleName : PySem.W.mroIn K A_DoubleName (.type "object") = some true)
  (iI_DoubleName : PySem.W.findIn K (.ref A_DoubleName) "__init__" = some (some (.ref fI)))
  (aC_UnknownName : PySem.W.nsIn K mainGlobals "UnknownName" = some (some (.ref A_UnknownName)))
  (xC_UnknownName : K.lookup A_UnknownName = some (excClassObj nm_UnknownName qn_UnknownName A_UnknownName N_UnknownName bs_UnknownName bm_UnknownName true sn_UnknownName sub_UnknownName ab_UnknownName col_UnknownName dd_UnknownName m0_UnknownName m1_UnknownName m2_UnknownName m3_UnknownName m5_UnknownName "ValueError.__new__"))
  (rC_UnknownName : PySem.HandSPX.refsVE bm_UnknownName = true)
  (sa_UnknownName : PySem.W.findIn K (.ref A_UnknownName) "__setattr__" = some (some (.builtin "object.__setattr__")))
  (eC_UnknownName : PySem.W.subIn K (.ref A_UnknownName) (.type "BaseException") = some true)
  (tC_UnknownName : PySem.W.typeIn K (.ref A_UnknownName) = some (.type "type"))
  (kC_UnknownName : PySem.W.keepIn K (.ref A_UnknownName) = true)
  (nv_UnknownName : PySem.W.findIn K (.ref A_UnknownName) "value" = some none)
  (ga_UnknownName : PySem.W.findIn K (.ref A_UnknownName) "__getattribute__" = some (some (.builtin "BaseException.__getattribute__")))
  (gg_UnknownName : PySem.W.findIn K (.ref A_UnknownName) "__getattr__" = some none)
  (hd_UnknownName : PySem.W.hasDictIn K A_UnknownName = true)
  (ha_UnknownName : PySem.W.findIn K (.ref A_UnknownName) "__class__" = some (some (.builtin "object.__class__")))
  (hm_UnknownName : PySem.W.mroIn K A_UnknownName (.type "object") = some true)
  (iI_UnknownName : PySem.W.findIn K (.ref A_UnknownName) "__init__" = some (some (.ref fI)))
  (aC_InvalidNote : PySem.W.nsIn K mainGlobals "InvalidNote" = some (some (.ref A_InvalidNote)))
  (xC_InvalidNote : K.lookup A_InvalidNote = some (excClassObj nm_InvalidNote qn_InvalidNote A_InvalidNote N_InvalidNote bs_InvalidNote bm_InvalidNote true sn_InvalidNote sub_InvalidNote ab_InvalidNote col_InvalidNote dd_InvalidNote m0_InvalidNote m1_InvalidNote m2_InvalidNote m3_InvalidNote m5_InvalidNote "ValueError.__new__"))
  (rC_InvalidNote : PySem.HandSPX.refsVE bm_InvalidNote = true)
  (sa_InvalidNote : PySem.W.findIn K (.ref A_InvalidNote) "__setattr__" = some (some (.builtin "object.__setattr__")))
  (eC_InvalidNote : PySem.W.subIn K (.ref A_InvalidNote) (.type "BaseException") = some true)
  (tC_InvalidNote : PySem.W.typeIn K (.ref A_InvalidNote) = some (.type "type"))
  (kC_InvalidNote : PySem.W.keepIn K (.ref A_InvalidNote) = true)
  (nv_InvalidNote : PySem.W.findIn K (.ref A_InvalidNote) "value" = some none)
  (ga_InvalidNote : PySem.W.findIn K (.ref A_InvalidNote) "__getattribute__" = some (some (.builtin "BaseException.__getattribute__")))
  (gg_InvalidNote : PySem.W.findIn K (.ref A_InvalidNote) "__getattr__" = some none)
  (hd_InvalidNote : PySem.W.hasDictIn K A_InvalidNote = true)
  (ha_InvalidNote : PySem.W.findIn K (.ref A_InvalidNote) "__class__" = some (some (.builtin "object.__class__")))
  (hm_InvalidNote : PySem.W.mroIn K A_InvalidNote (.type "object") = some true)
  (iI_InvalidNote : PySem.W.findIn K (.ref A_InvalidNote) "__init__" = some (some (.ref fI)))
  (aC_InvalidSource : PySem.W.nsIn K mainGlobals "InvalidSource" = some (some (.ref A_InvalidSource)))
  (xC_InvalidSource : K.lookup A_InvalidSource = some (excClassObj nm_InvalidSource qn_InvalidSource A_InvalidSource N_InvalidSource bs_InvalidSource bm_InvalidSource true sn_InvalidSource sub_InvalidSource ab_InvalidSource col_InvalidSource dd_InvalidSource m0_InvalidSource m1_InvalidSource m2_InvalidSource m3_InvalidSource m5_InvalidSource "ValueError.__new__"))
  (rC_InvalidSource : PySem.HandSPX.refsVE bm_InvalidSource = true)
  (sa_InvalidSource : PySem.W.findIn K (.ref A_InvalidSource) "__setattr__" = some (some (.builtin "object.__setattr__")))
  (eC_InvalidSource : PySem.W.subIn K (.ref A_InvalidSource) (.type "BaseException") = some true)
  (tC_InvalidSource : PySem.W.typeIn K (.ref A_InvalidSource) = some (.type "type"))
  (kC_InvalidSource : PySem.W.keepIn K (.ref A_InvalidSource) = true)
  (nv_InvalidSource : PySem.W.findIn K (.ref A_InvalidSource) "value" = some none)
  (ga_InvalidSource : PySem.W.findIn K (.ref A_InvalidSource) "__getattribute__" = some (some (.builtin "BaseException.__getattribute__")))
  (gg_InvalidSource : PySem.W.findIn K (.ref A_InvalidSource) "__getattr__" = some none)
  (hd_InvalidSource : PySem.W.hasDictIn K A_InvalidSource = true)
  (ha_InvalidSource : PySem.W.findIn K (.ref A_InvalidSource) "__class__" = some (some (.builtin "object.__class__")))
  (hm_InvalidSource : PySem.W.mroIn K A_InvalidSource (.type "object") = some true)
  (iI_InvalidSource : PySem.W.findIn K (.ref A_InvalidSource) "__init__" = some (some (.ref fI)))
  (aC_NoChance : PySem.W.nsIn K mainGlobals "NoChance" = some (some (.ref A_NoChance)))
  (xC_NoChance : K.lookup A_NoChance = some (excClassObj nm_NoChance qn_NoChance A_NoChance N_NoChance bs_NoChance bm_NoChance true sn_NoChance sub_NoChance ab_NoChance col_NoChance dd_NoChance m0_NoChance m1_NoChance m2_NoChance m3_NoChance m5_NoChance "ValueError.__new__"))
  (rC_NoChance : PySem.HandSPX.refsVE bm_NoChance = true)
  (sa_NoChance : PySem.W.findIn K (.ref A_NoChance) "__setattr__" = some (some (.builtin "object.__setattr__")))
  (eC_NoChance : PySem.W.subIn K (.ref A_NoChance) (.type "BaseException") = some true)
  (tC_NoChance : PySem.W.typeIn K (.ref A_NoChance) = some (.type "type"))
  (kC_NoChance : PySem.W.keepIn K (.ref A_NoChance) = true)
  (nv_NoChance : PySem.W.findIn K (.ref A_NoChance) "value" = some none)
  (ga_NoChance : PySem.W.findIn K (.ref A_NoChance) "__getattribute__" = some (some (.builtin "BaseException.__getattribute__")))
  (gg_NoChance : PySem.W.findIn K (.ref A_NoChance) "__getattr__" = some none)
  (hd_NoChance : PySem.W.hasDictIn K A_NoChance = true)
  (ha_NoChance : PySem.W.findIn K (.ref A_NoChance) "__class__" = some (some (.builtin "object.__class__")))
  (hm_NoChance : PySem.W.mroIn K A_NoChance (.type "object") = some true)
  (iI_NoChance : PySem.W.findIn K (.ref A_NoChance) "__init__" = some (some (.ref fI)))
  (aC_NothingToUndo : PySem.W.nsIn K mainGlobals "NothingToUndo" = some (some (.ref A_NothingToUndo)))
  (xC_NothingToUndo : K.lookup A_NothingToUndo = some (excClassObj nm_NothingToUndo qn_NothingToUndo A_NothingToUndo N_NothingToUndo bs_NothingToUndo bm_NothingToUndo true sn_NothingToUndo sub_NothingToUndo ab_NothingToUndo col_NothingToUndo dd_NothingToUndo m0_NothingToUndo m1_NothingToUndo m2_NothingToUndo m3_NothingToUndo m5_NothingToUndo "ValueError.__new__"))
  (rC_NothingToUndo : PySem.HandSPX.refsVE bm_NothingToUndo = true)
  (sa_NothingToUndo : PySem.W.findIn K (.ref A_NothingToUndo) "__setattr__" = some (some (.builtin "object.__setattr__")))
  (eC_NothingToUndo : PySem.W.subIn K (.ref A_NothingToUndo) (.type "BaseException") = some true)
  (tC_NothingToUndo : PySem.W.typeIn K (.ref A_NothingToUndo) = some (.type "type"))
  (kC_NothingToUndo : PySem.W.keepIn K (.ref A_NothingToUndo) = true)
  (nv_NothingToUndo : PySem.W.findIn K (.ref A_NothingToUndo) "value" = some none)
  (ga_NothingToUndo : PySem.W.findIn K (.ref A_NothingToUndo) "__getattribute__" = some (some (.builtin "BaseException.__getattribute__")))
  (gg_NothingToUndo : PySem.W.findIn K (.ref A_NothingToUndo) "__getattr__" = some none)
  (hd_NothingToUndo : PySem.W.hasDictIn K A_NothingToUndo = true)
  (ha_NothingToUndo : PySem.W.findIn K (.ref A_NothingToUndo) "__class__" = some (some (.builtin "object.__class__")))
  (hm_NothingToUndo : PySem.W.mroIn K A_NothingToUndo (.type "object") = some true)
  (iI_NothingToUndo : PySem.W.findIn K (.ref A_NothingToUndo) "__init__" = some (some (.ref fI)))
  (aC_Unreadable : PySem.W.nsIn K mainGlobals "Unreadable" = some (some (.ref A_Unreadable)))
  (xC_Unreadable : K.lookup A_Unreadable = some (excClassObj nm_Unreadable qn_Unreadable A_Unreadable N_Unreadable bs_Unreadable bm_Unreadable true sn_Unreadable sub_Unreadable ab_Unreadable col_Unreadable dd_Unreadable m0_Unreadable m1_Unreadable m2_Unreadable m3_Unreadable m5_Unreadable "ValueError.__new__"))
  (rC_Unreadable : PySem.HandSPX.refsVE bm_Unreadable = true)
  (sa_Unreadable : PySem.W.findIn K (.ref A_Unreadable) "__setattr__" = some (some (.builtin "object.__setattr__")))
  (eC_Unreadable : PySem.W.subIn K (.ref A_Unreadable) (.type "BaseException") = some true)
  (tC_Unreadable : PySem.W.typeIn K (.ref A_Unreadable) = some (.type "type"))
  (kC_Unreadable : PySem.W.keepIn K (.ref A_Unreadable) = true)
  (nv_Unreadable : PySem.W.findIn K (.ref A_Unreadable) "value" = some none)
  (ga_Unreadable : PySem.W.findIn K (.ref A_Unreadable) "__getattribute__" = some (some (.builtin "BaseException.__getattribute__")))
  (gg_Unreadable : PySem.W.findIn K (.ref A_Unreadable) "__getattr__" = some none)
  (hd_Unreadable : PySem.W.hasDictIn K A_Unreadable = true)
  (ha_Unreadable : PySem.W.findIn K (.ref A_Unreadable) "__class__" = some (some (.builtin "object.__class__")))
  (hm_Unreadable : PySem.W.mroIn K A_Unreadable (.type "object") = some true)
  (iI_Unreadable : PySem.W.findIn K (.ref A_Unreadable) "__init__" = some (some (.ref fI)))
  (hn : PySem.W.specialIn K (.builtin "object.__class__") "__get__" = some (some (.builtin "getset_descriptor.__get__")))
  (ht : PySem.W.takesIn K (.builtin "object.__class__") = some true)
  (tI : PySem.W.typeIn K (.ref fI) = some (.type "function"))
  (lI : K.lookup fI = some ⟨ocI, odI, .func (PySem.W.fnOf "__init__" "WorthError.__init__" (defArgs s_WorthError___init__) (defBody s_WorthError___init__) (defScope s_WorthError___init__) .none kVI dcI pmI anI cdI ctI), slI⟩)
  (cI : PySem.W.codeIn K cdI "WorthError.__init__" = true)
  (kI : PySem.W.keepIn K (.ref fI) = true)
  (vV : PySem.W.findCls K (.type "ValueError") (.type "type") "__init__" = some (.val (.builtin "ValueError.__init__")))
  (v_WorthError : PySem.W.kitOne K (.ref A_WorthError) (.type "ValueError") = some true)
  (y_WorthError : PySem.W.kitAny K (.ref A_WorthError) [.ref A_InvalidNumber, .ref A_InvalidSigns, .ref A_UnknownSign, .ref A_InvalidMachine, .ref A_UnlikeSigns, .ref A_Endless, .ref A_InvalidPattern, .ref A_InvalidBook, .ref A_InvalidName, .ref A_DoubleName, .ref A_UnknownName, .ref A_InvalidNote, .ref A_InvalidSource, .ref A_NoChance, .ref A_NothingToUndo, .ref A_Unreadable] = some false)
  (v_InvalidNumber : PySem.W.kitOne K (.ref A_InvalidNumber) (.type "ValueError") = some true)
  (b_InvalidNumber : PySem.W.kitOne K (.ref A_InvalidNumber) (.ref A_WorthError) = some true)
  (y_InvalidNumber : PySem.W.kitAny K (.ref A_InvalidNumber) [.ref A_InvalidSigns, .ref A_UnknownSign, .ref A_InvalidMachine, .ref A_UnlikeSigns, .ref A_Endless, .ref A_InvalidPattern, .ref A_InvalidBook, .ref A_InvalidName, .ref A_DoubleName, .ref A_UnknownName, .ref A_InvalidNote, .ref A_InvalidSource, .ref A_NoChance, .ref A_NothingToUndo, .ref A_Unreadable] = some false)
  (v_InvalidSigns : PySem.W.kitOne K (.ref A_InvalidSigns) (.type "ValueError") = some true)
  (b_InvalidSigns : PySem.W.kitOne K (.ref A_InvalidSigns) (.ref A_WorthError) = some true)
  (y_InvalidSigns : PySem.W.kitAny K (.ref A_InvalidSigns) [.ref A_InvalidNumber, .ref A_UnknownSign, .ref A_InvalidMachine, .ref A_UnlikeSigns, .ref A_Endless, .ref A_InvalidPattern, .ref A_InvalidBook, .ref A_InvalidName, .ref A_DoubleName, .ref A_UnknownName, .ref A_InvalidNote, .ref A_InvalidSource, .ref A_NoChance, .ref A_NothingToUndo, .ref A_Unreadable] = some false)
  (v_UnknownSign : PySem.W.kitOne K (.ref A_UnknownSign) (.type "ValueError") = some true)
  (b_UnknownSign : PySem.W.kitOne K (.ref A_UnknownSign) (.ref A_WorthError) = some true)
  (y_UnknownSign : PySem.W.kitAny K (.ref A_UnknownSign) [.ref A_InvalidNumber, .ref A_InvalidSigns, .ref A_InvalidMachine, .ref A_UnlikeSigns, .ref A_Endless, .ref A_InvalidPattern, .ref A_InvalidBook, .ref A_InvalidName, .ref A_DoubleName, .ref A_UnknownName, .ref A_InvalidNote, .ref A_InvalidSource, .ref A_NoChance, .ref A_NothingToUndo, .ref A_Unreadable] = some false)
  (v_InvalidMachine : PySem.W.kitOne K (.ref A_InvalidMachine) (.type "ValueError") = some true)
  (b_InvalidMachine : PySem.W.kitOne K (.ref A_InvalidMachine) (.ref A_WorthError) = some true)
  (y_InvalidMachine : PySem.W.kitAny K (.ref A_InvalidMachine) [.ref A_InvalidNumber, .ref A_InvalidSigns, .ref A_UnknownSign, .ref A_UnlikeSigns, .ref A_Endless, .ref A_InvalidPattern, .ref A_InvalidBook, .ref A_InvalidName, .ref A_DoubleName, .ref A_UnknownName, .ref A_InvalidNote, .ref A_InvalidSource, .ref A_NoChance, .ref A_NothingToUndo, .ref A_Unreadable] = some false)
  (v_UnlikeSigns : PySem.W.kitOne K (.ref A_UnlikeSigns) (.type "ValueError") = some true)
  (b_UnlikeSigns : PySem.W.kitOne K (.ref A_UnlikeSigns) (.ref A_WorthError) = some true)
  (y_UnlikeSigns : PySem.W.kitAny K (.ref A_UnlikeSigns) [.ref A_InvalidNumber, .ref A_InvalidSigns, .ref A_UnknownSign, .ref A_InvalidMachine, .ref A_Endless, .ref A_InvalidPattern, .ref A_InvalidBook, .ref A_InvalidName, .ref A_DoubleName, .ref A_UnknownName, .ref A_InvalidNote, .ref A_InvalidSource, .ref A_NoChance, .ref A_NothingToUndo, .ref A_Unreadable] = some false)
  (v_Endless : PySem.W.kitOne K (.ref A_Endless) (.type "ValueError") = some true)
  (b_Endless : PySem.W.kitOne K (.ref A_Endless) (.ref A_WorthError) = some true)
  (y_Endless : PySem.W.kitAny K (.ref A_Endless) [.ref A_InvalidNumber, .ref A_InvalidSigns, .ref A_UnknownSign, .ref A_InvalidMachine, .ref A_UnlikeSigns, .ref A_InvalidPattern, .ref A_InvalidBook, .ref A_InvalidName, .ref A_DoubleName, .ref A_UnknownName, .ref A_InvalidNote, .ref A_InvalidSource, .ref A_NoChance, .ref A_NothingToUndo, .ref A_Unreadable] = some false)
  (v_InvalidPattern : PySem.W.kitOne K (.ref A_InvalidPattern) (.type "ValueError") = some true)
  (b_InvalidPattern : PySem.W.kitOne K (.ref A_InvalidPattern) (.ref A_WorthError) = some true)
  (y_InvalidPattern : PySem.W.kitAny K (.ref A_InvalidPattern) [.ref A_InvalidNumber, .ref A_InvalidSigns, .ref A_UnknownSign, .ref A_InvalidMachine, .ref A_UnlikeSigns, .ref A_Endless, .ref A_InvalidBook, .ref A_InvalidName, .ref A_DoubleName, .ref A_UnknownName, .ref A_InvalidNote, .ref A_InvalidSource, .ref A_NoChance, .ref A_NothingToUndo, .ref A_Unreadable] = some false)
  (v_InvalidBook : PySem.W.kitOne K (.ref A_InvalidBook) (.type "ValueError") = some true)
  (b_InvalidBook : PySem.W.kitOne K (.ref A_InvalidBook) (.ref A_WorthError) = some true)
  (y_InvalidBook : PySem.W.kitAny K (.ref A_InvalidBook) [.ref A_InvalidNumber, .ref A_InvalidSigns, .ref A_UnknownSign, .ref A_InvalidMachine, .ref A_UnlikeSigns, .ref A_Endless, .ref A_InvalidPattern, .ref A_InvalidName, .ref A_DoubleName, .ref A_UnknownName, .ref A_InvalidNote, .ref A_InvalidSource, .ref A_NoChance, .ref A_NothingToUndo, .ref A_Unreadable] = some false)
  (v_InvalidName : PySem.W.kitOne K (.ref A_InvalidName) (.type "ValueError") = some true)
  (b_InvalidName : PySem.W.kitOne K (.ref A_InvalidName) (.ref A_WorthError) = some true)
  (y_InvalidName : PySem.W.kitAny K (.ref A_InvalidName) [.ref A_InvalidNumber, .ref A_InvalidSigns, .ref A_UnknownSign, .ref A_InvalidMachine, .ref A_UnlikeSigns, .ref A_Endless, .ref A_InvalidPattern, .ref A_InvalidBook, .ref A_DoubleName, .ref A_UnknownName, .ref A_InvalidNote, .ref A_InvalidSource, .ref A_NoChance, .ref A_NothingToUndo, .ref A_Unreadable] = some false)
  (v_DoubleName : PySem.W.kitOne K (.ref A_DoubleName) (.type "ValueError") = some true)
  (b_DoubleName : PySem.W.kitOne K (.ref A_DoubleName) (.ref A_WorthError) = some true)
  (y_DoubleName : PySem.W.kitAny K (.ref A_DoubleName) [.ref A_InvalidNumber, .ref A_InvalidSigns, .ref A_UnknownSign, .ref A_InvalidMachine, .ref A_UnlikeSigns, .ref A_Endless, .ref A_InvalidPattern, .ref A_InvalidBook, .ref A_InvalidName, .ref A_UnknownName, .ref A_InvalidNote, .ref A_InvalidSource, .ref A_NoChance, .ref A_NothingToUndo, .ref A_Unreadable] = some false)
  (v_UnknownName : PySem.W.kitOne K (.ref A_UnknownName) (.type "ValueError") = some true)
  (b_UnknownName : PySem.W.kitOne K (.ref A_UnknownName) (.ref A_WorthError) = some true)
  (y_UnknownName : PySem.W.kitAny K (.ref A_UnknownName) [.ref A_InvalidNumber, .ref A_InvalidSigns, .ref A_UnknownSign, .ref A_InvalidMachine, .ref A_UnlikeSigns, .ref A_Endless, .ref A_InvalidPattern, .ref A_InvalidBook, .ref A_InvalidName, .ref A_DoubleName, .ref A_InvalidNote, .ref A_InvalidSource, .ref A_NoChance, .ref A_NothingToUndo, .ref A_Unreadable] = some false)
  (v_InvalidNote : PySem.W.kitOne K (.ref A_InvalidNote) (.type "ValueError") = some true)
  (b_InvalidNote : PySem.W.kitOne K (.ref A_InvalidNote) (.ref A_WorthError) = some true)
  (y_InvalidNote : PySem.W.kitAny K (.ref A_InvalidNote) [.ref A_InvalidNumber, .ref A_InvalidSigns, .ref A_UnknownSign, .ref A_InvalidMachine, .ref A_UnlikeSigns, .ref A_Endless, .ref A_InvalidPattern, .ref A_InvalidBook, .ref A_InvalidName, .ref A_DoubleName, .ref A_UnknownName, .ref A_InvalidSource, .ref A_NoChance, .ref A_NothingToUndo, .ref A_Unreadable] = some false)
  (v_InvalidSource : PySem.W.kitOne K (.ref A_InvalidSource) (.type "ValueError") = some true)
  (b_InvalidSource : PySem.W.kitOne K (.ref A_InvalidSource) (.ref A_WorthError) = some true)
  (y_InvalidSource : PySem.W.kitAny K (.ref A_InvalidSource) [.ref A_InvalidNumber, .ref A_InvalidSigns, .ref A_UnknownSign, .ref A_InvalidMachine, .ref A_UnlikeSigns, .ref A_Endless, .ref A_InvalidPattern, .ref A_InvalidBook, .ref A_InvalidName, .ref A_DoubleName, .ref A_UnknownName, .ref A_InvalidNote, .ref A_NoChance, .ref A_NothingToUndo, .ref A_Unreadable] = some false)
  (v_NoChance : PySem.W.kitOne K (.ref A_NoChance) (.type "ValueError") = some true)
  (b_NoChance : PySem.W.kitOne K (.ref A_NoChance) (.ref A_WorthError) = some true)
  (y_NoChance : PySem.W.kitAny K (.ref A_NoChance) [.ref A_InvalidNumber, .ref A_InvalidSigns, .ref A_UnknownSign, .ref A_InvalidMachine, .ref A_UnlikeSigns, .ref A_Endless, .ref A_InvalidPattern, .ref A_InvalidBook, .ref A_InvalidName, .ref A_DoubleName, .ref A_UnknownName, .ref A_InvalidNote, .ref A_InvalidSource, .ref A_NothingToUndo, .ref A_Unreadable] = some false)
  (v_NothingToUndo : PySem.W.kitOne K (.ref A_NothingToUndo) (.type "ValueError") = some true)
  (b_NothingToUndo : PySem.W.kitOne K (.ref A_NothingToUndo) (.ref A_WorthError) = some true)
  (y_NothingToUndo : PySem.W.kitAny K (.ref A_NothingToUndo) [.ref A_InvalidNumber, .ref A_InvalidSigns, .ref A_UnknownSign, .ref A_InvalidMachine, .ref A_UnlikeSigns, .ref A_Endless, .ref A_InvalidPattern, .ref A_InvalidBook, .ref A_InvalidName, .ref A_DoubleName, .ref A_UnknownName, .ref A_InvalidNote, .ref A_InvalidSource, .ref A_NoChance, .ref A_Unreadable] = some false)
  (v_Unreadable : PySem.W.kitOne K (.ref A_Unreadable) (.type "ValueError") = some true)
  (b_Unreadable : PySem.W.kitOne K (.ref A_Unreadable) (.ref A_WorthError) = some true)
  (y_Unreadable : PySem.W.kitAny K (.ref A_Unreadable) [.ref A_InvalidNumber, .ref A_InvalidSigns, .ref A_UnknownSign, .ref A_InvalidMachine, .ref A_UnlikeSigns, .ref A_Endless, .ref A_InvalidPattern, .ref A_InvalidBook, .ref A_InvalidName, .ref A_DoubleName, .ref A_UnknownName, .ref A_InvalidNote, .ref A_InvalidSource, .ref A_NoChance, .ref A_NothingToUndo] = some false) :
  ∃ fd : FuncData, (∀ (s : Shared) (u : Value), BindsTo s fd ⟨[u], []⟩ [("_law_script", u)]) ∧ ∀ base : Heap, K.In base → base.Ns mainGlobals mg → FnOk P w K mg base CX0 22 fa fd ["_law_script"] (spD K 1 P_law) := by
  have S__law_deck : Std K mg "_law_deck" s__law_deck := ⟨_, _, PySem.W.mg_of X G a__law_deck, fun_mk (st := s__law_deck) l__law_deck q__law_deck k__law_deck⟩
  have S__law_draw : Std K mg "_law_draw" s__law_draw := ⟨_, _, PySem.W.mg_of X G a__law_draw, fun_mk (st := s__law_draw) l__law_draw q__law_draw k__law_draw⟩
  have S__law_text : Std K mg "_law_text" s__law_text := ⟨_, _, PySem.W.mg_of X G a__law_text, fun_mk (st := s__law_text) l__law_text q__law_text k__law_text⟩
  have S__law_value : Std K mg "_law_value" s__law_value := ⟨_, _, PySem.W.mg_of X G a__law_value, fun_mk (st := s__law_value) l__law_value q__law_value k__law_value⟩
  have S__law_alike : Std K mg "_law_alike" s__law_alike := ⟨_, _, PySem.W.mg_of X G a__law_alike, fun_mk (st := s__law_alike) l__law_alike q__law_alike k__law_alike⟩
  have S__law_made : Std K mg "_law_made" s__law_made := ⟨_, _, PySem.W.mg_of X G a__law_made, fun_mk (st := s__law_made) l__law_made q__law_made k__law_made⟩
  have S__law_named : Std K mg "_law_named" s__law_named := ⟨_, _, PySem.W.mg_of X G a__law_named, fun_mk (st := s__law_named) l__law_named q__law_named k__law_named⟩
  have S__law_kinds : Std K mg "_law_kinds" s__law_kinds := ⟨_, _, PySem.W.mg_of X G a__law_kinds, fun_mk (st := s__law_kinds) l__law_kinds q__law_kinds k__law_kinds⟩
  have S_law : Std K mg "law" s_law := ⟨_, _, PySem.W.mg_of X G a_law, fun_mk (st := s_law) l_law q_law k_law⟩
  have n_int : mg "int" = none := PySem.W.mg_none_of X G z_int
  have n_isinstance : mg "isinstance" = none := PySem.W.mg_none_of X G z_isinstance
  have n_list : mg "list" = none := PySem.W.mg_none_of X G z_list
  have n_dict : mg "dict" = none := PySem.W.mg_none_of X G z_dict
  have n_tuple : mg "tuple" = none := PySem.W.mg_none_of X G z_tuple
  have n_len : mg "len" = none := PySem.W.mg_none_of X G z_len
  have n_str : mg "str" = none := PySem.W.mg_none_of X G z_str
  have n_bool : mg "bool" = none := PySem.W.mg_none_of X G z_bool
  have n_zip : mg "zip" = none := PySem.W.mg_none_of X G z_zip
  have n_range : mg "range" = none := PySem.W.mg_none_of X G z_range
  have n_ValueError : mg "ValueError" = none := PySem.W.mg_none_of X G z_ValueError
  have X_WorthError : ExcD K mg "WorthError" A_WorthError fI := ⟨PySem.W.mg_of X G aC_WorthError, ⟨⟨⟨_, _, _, _, _, _, _, _, _, _, _, _, _, _, _, xC_WorthError, rC_WorthError⟩, sa_WorthError, eC_WorthError, tC_WorthError, kC_WorthError⟩, nv_WorthError, ga_WorthError, gg_WorthError, hd_WorthError, ha_WorthError, hm_WorthError⟩, iI_WorthError⟩
  have X_InvalidNumber : ExcD K mg "InvalidNumber" A_InvalidNumber fI := ⟨PySem.W.mg_of X G aC_InvalidNumber, ⟨⟨⟨_, _, _, _, _, _, _, _, _, _, _, _, _, _, _, xC_InvalidNumber, rC_InvalidNumber⟩, sa_InvalidNumber, eC_InvalidNumber, tC_InvalidNumber, kC_InvalidNumber⟩, nv_InvalidNumber, ga_InvalidNumber, gg_InvalidNumber, hd_InvalidNumber, ha_InvalidNumber, hm_InvalidNumber⟩, iI_InvalidNumber⟩
  have X_InvalidSigns : ExcD K mg "InvalidSigns" A_InvalidSigns fI := ⟨PySem.W.mg_of X G aC_InvalidSigns, ⟨⟨⟨_, _, _, _, _, _, _, _, _, _, _, _, _, _, _, xC_InvalidSigns, rC_InvalidSigns⟩, sa_InvalidSigns, eC_InvalidSigns, tC_InvalidSigns, kC_InvalidSigns⟩, nv_InvalidSigns, ga_InvalidSigns, gg_InvalidSigns, hd_InvalidSigns, ha_InvalidSigns, hm_InvalidSigns⟩, iI_InvalidSigns⟩
  have X_UnknownSign : ExcD K mg "UnknownSign" A_UnknownSign fI := ⟨PySem.W.mg_of X G aC_UnknownSign, ⟨⟨⟨_, _, _, _, _, _, _, _, _, _, _, _, _, _, _, xC_UnknownSign, rC_UnknownSign⟩, sa_UnknownSign, eC_UnknownSign, tC_UnknownSign, kC_UnknownSign⟩, nv_UnknownSign, ga_UnknownSign, gg_UnknownSign, hd_UnknownSign, ha_UnknownSign, hm_UnknownSign⟩, iI_UnknownSign⟩
  have X_InvalidMachine : ExcD K mg "InvalidMachine" A_InvalidMachine fI := ⟨PySem.W.mg_of X G aC_InvalidMachine, ⟨⟨⟨_, _, _, _, _, _, _, _, _, _, _, _, _, _, _, xC_InvalidMachine, rC_InvalidMachine⟩, sa_InvalidMachine, eC_InvalidMachine, tC_InvalidMachine, kC_InvalidMachine⟩, nv_InvalidMachine, ga_InvalidMachine, gg_InvalidMachine, hd_InvalidMachine, ha_InvalidMachine, hm_InvalidMachine⟩, iI_InvalidMachine⟩
  have X_UnlikeSigns : ExcD K mg "UnlikeSigns" A_UnlikeSigns fI := ⟨PySem.W.mg_of X G aC_UnlikeSigns, ⟨⟨⟨_, _, _, _, _, _, _, _, _, _, _, _, _, _, _, xC_UnlikeSigns, rC_UnlikeSigns⟩, sa_UnlikeSigns, eC_UnlikeSigns, tC_UnlikeSigns, kC_UnlikeSigns⟩, nv_UnlikeSigns, ga_UnlikeSigns, gg_UnlikeSigns, hd_UnlikeSigns, ha_UnlikeSigns, hm_UnlikeSigns⟩, iI_UnlikeSigns⟩
  have X_Endless : ExcD K mg "Endless" A_Endless fI := ⟨PySem.W.mg_of X G aC_Endless, ⟨⟨⟨_, _, _, _, _, _, _, _, _, _, _, _, _, _, _, xC_Endless, rC_Endless⟩, sa_Endless, eC_Endless, tC_Endless, kC_Endless⟩, nv_Endless, ga_Endless, gg_Endless, hd_Endless, ha_Endless, hm_Endless⟩, iI_Endless⟩
  have X_InvalidPattern : ExcD K mg "InvalidPattern" A_InvalidPattern fI := ⟨PySem.W.mg_of X G aC_InvalidPattern, ⟨⟨⟨_, _, _, _, _, _, _, _, _, _, _, _, _, _, _, xC_InvalidPattern, rC_InvalidPattern⟩, sa_InvalidPattern, eC_InvalidPattern, tC_InvalidPattern, kC_InvalidPattern⟩, nv_InvalidPattern, ga_InvalidPattern, gg_InvalidPattern, hd_InvalidPattern, ha_InvalidPattern, hm_InvalidPattern⟩, iI_InvalidPattern⟩
  have X_InvalidBook : ExcD K mg "InvalidBook" A_InvalidBook fI := ⟨PySem.W.mg_of X G aC_InvalidBook, ⟨⟨⟨_, _, _, _, _, _, _, _, _, _, _, _, _, _, _, xC_InvalidBook, rC_InvalidBook⟩, sa_InvalidBook, eC_InvalidBook, tC_InvalidBook, kC_InvalidBook⟩, nv_InvalidBook, ga_InvalidBook, gg_InvalidBook, hd_InvalidBook, ha_InvalidBook, hm_InvalidBook⟩, iI_InvalidBook⟩
  have X_InvalidName : ExcD K mg "InvalidName" A_InvalidName fI := ⟨PySem.W.mg_of X G aC_InvalidName, ⟨⟨⟨_, _, _, _, _, _, _, _, _, _, _, _, _, _, _, xC_InvalidName, rC_InvalidName⟩, sa_InvalidName, eC_InvalidName, tC_InvalidName, kC_InvalidName⟩, nv_InvalidName, ga_InvalidName, gg_InvalidName, hd_InvalidName, ha_InvalidName, hm_InvalidName⟩, iI_InvalidName⟩
  have X_DoubleName : ExcD K mg "DoubleName" A_DoubleName fI := ⟨PySem.W.mg_of X G aC_DoubleName, ⟨⟨⟨_, _, _, _, _, _, _, _, _, _, _, _, _, _, _, xC_DoubleName, rC_DoubleName⟩, sa_DoubleName, eC_DoubleName, tC_DoubleName, kC_DoubleName⟩, nv_DoubleName, ga_DoubleName, gg_DoubleName, hd_DoubleName, ha_DoubleName, hm_DoubleName⟩, iI_DoubleName⟩
  have X_UnknownName : ExcD K mg "UnknownName" A_UnknownName fI := ⟨PySem.W.mg_of X G aC_UnknownName, ⟨⟨⟨_, _, _, _, _, _, _, _, _, _, _, _, _, _, _, xC_UnknownName, rC_UnknownName⟩, sa_UnknownName, eC_UnknownName, tC_UnknownName, kC_UnknownName⟩, nv_UnknownName, ga_UnknownName, gg_UnknownName, hd_UnknownName, ha_UnknownName, hm_UnknownName⟩, iI_UnknownName⟩
  have X_InvalidNote : ExcD K mg "InvalidNote" A_InvalidNote fI := ⟨PySem.W.mg_of X G aC_InvalidNote, ⟨⟨⟨_, _, _, _, _, _, _, _, _, _, _, _, _, _, _, xC_InvalidNote, rC_InvalidNote⟩, sa_InvalidNote, eC_InvalidNote, tC_InvalidNote, kC_InvalidNote⟩, nv_InvalidNote, ga_InvalidNote, gg_InvalidNote, hd_InvalidNote, ha_InvalidNote, hm_InvalidNote⟩, iI_InvalidNote⟩
  have X_InvalidSource : ExcD K mg "InvalidSource" A_InvalidSource fI := ⟨PySem.W.mg_of X G aC_InvalidSource, ⟨⟨⟨_, _, _, _, _, _, _, _, _, _, _, _, _, _, _, xC_InvalidSource, rC_InvalidSource⟩, sa_InvalidSource, eC_InvalidSource, tC_InvalidSource, kC_InvalidSource⟩, nv_InvalidSource, ga_InvalidSource, gg_InvalidSource, hd_InvalidSource, ha_InvalidSource, hm_InvalidSource⟩, iI_InvalidSource⟩
  have X_NoChance : ExcD K mg "NoChance" A_NoChance fI := ⟨PySem.W.mg_of X G aC_NoChance, ⟨⟨⟨_, _, _, _, _, _, _, _, _, _, _, _, _, _, _, xC_NoChance, rC_NoChance⟩, sa_NoChance, eC_NoChance, tC_NoChance, kC_NoChance⟩, nv_NoChance, ga_NoChance, gg_NoChance, hd_NoChance, ha_NoChance, hm_NoChance⟩, iI_NoChance⟩
  have X_NothingToUndo : ExcD K mg "NothingToUndo" A_NothingToUndo fI := ⟨PySem.W.mg_of X G aC_NothingToUndo, ⟨⟨⟨_, _, _, _, _, _, _, _, _, _, _, _, _, _, _, xC_NothingToUndo, rC_NothingToUndo⟩, sa_NothingToUndo, eC_NothingToUndo, tC_NothingToUndo, kC_NothingToUndo⟩, nv_NothingToUndo, ga_NothingToUndo, gg_NothingToUndo, hd_NothingToUndo, ha_NothingToUndo, hm_NothingToUndo⟩, iI_NothingToUndo⟩
  have X_Unreadable : ExcD K mg "Unreadable" A_Unreadable fI := ⟨PySem.W.mg_of X G aC_Unreadable, ⟨⟨⟨_, _, _, _, _, _, _, _, _, _, _, _, _, _, _, xC_Unreadable, rC_Unreadable⟩, sa_Unreadable, eC_Unreadable, tC_Unreadable, kC_Unreadable⟩, nv_Unreadable, ga_Unreadable, gg_Unreadable, hd_Unreadable, ha_Unreadable, hm_Unreadable⟩, iI_Unreadable⟩
  have Gc : ClsG K := ⟨hn, ht⟩
  have FI := fun_mk (st := s_WorthError___init__) lI cI kI
  have e := hfa.symm.trans (PySem.W.mg_of X G a_law)
  cases e
  have Fl := fun_mk (st := s_law) l_law q_law k_law
  refine ⟨_, fun s u => .of_eq rfl, fun base _ _ => cal_at (x := "law") (st := s_law) ?_ hfa Fl⟩
  have G_init : IniD P w K mg base fI := ⟨_, tI, ini_ok FI sc_WorthError___init__ (fun cdv A outer s H E => pss_cons (ps_expr (pe_veinit (by rfl) n_ValueError vV (pa_cons (pv 0) (pa_cons (pv 1) pa_nil)))) (pss_one (ps_ost (pv 0) (pv 1)))), FI.binds (ps := ["self", "value"]) fun _ _ _ _ _ _ us hl => match us, hl with | [_, _], _ => rfl⟩
  have G_initK : IniK P w K mg base fI := ⟨_, tI, ini_ok FI sc_WorthError___init__ (fun cdv A outer s H E => pss_cons (ps_expr (pe_veinit (by rfl) n_ValueError vV (pa_cons (pv 0) (pa_cons (pv 1) pa_nil)))) (pss_one (ps_ost (pv 0) (pv 1)))), kbn_of (n := 1) (m := 1) (pm := [0, 1]) (ks := ["value"]) FI rfl (fun _ _ _ _ _ _ us ws hl hw => match us, hl, ws, hw with | [_], _, [_], _ => rfl)⟩
  have T : ∀ k, k < 17 → ExcK K ((clsL [A_WorthError, A_InvalidNumber, A_InvalidSigns, A_UnknownSign, A_InvalidMachine, A_UnlikeSigns, A_Endless, A_InvalidPattern, A_InvalidBook, A_InvalidName, A_DoubleName, A_UnknownName, A_InvalidNote, A_InvalidSource, A_NoChance, A_NothingToUndo, A_Unreadable]) k) := by
      intro k hk
      match k, hk with
      | 0, _ => exact X_WorthError.k
      | 1, _ => exact X_InvalidNumber.k
      | 2, _ => exact X_InvalidSigns.k
      | 3, _ => exact X_UnknownSign.k
      | 4, _ => exact X_InvalidMachine.k
      | 5, _ => exact X_UnlikeSigns.k
      | 6, _ => exact X_Endless.k
      | 7, _ => exact X_InvalidPattern.k
      | 8, _ => exact X_InvalidBook.k
      | 9, _ => exact X_InvalidName.k
      | 10, _ => exact X_DoubleName.k
      | 11, _ => exact X_UnknownName.k
      | 12, _ => exact X_InvalidNote.k
      | 13, _ => exact X_InvalidSource.k
      | 14, _ => exact X_NoChance.k
      | 15, _ => exact X_NothingToUndo.k
      | 16, _ => exact X_Unreadable.k
      | n + 17, h => exact absurd h (by omega)
  have V : ∀ k, k < 17 → PySem.W.kitOne K (.ref ((clsL [A_WorthError, A_InvalidNumber, A_InvalidSigns, A_UnknownSign, A_InvalidMachine, A_UnlikeSigns, A_Endless, A_InvalidPattern, A_InvalidBook, A_InvalidName, A_DoubleName, A_UnknownName, A_InvalidNote, A_InvalidSource, A_NoChance, A_NothingToUndo, A_Unreadable]) k)) (.type "ValueError") = some true := by
      intro k hk
      match k, hk with
      | 0, _ => exact v_WorthError
      | 1, _ => exact v_InvalidNumber
      | 2, _ => exact v_InvalidSigns
      | 3, _ => exact v_UnknownSign
      | 4, _ => exact v_InvalidMachine
      | 5, _ => exact v_UnlikeSigns
      | 6, _ => exact v_Endless
      | 7, _ => exact v_InvalidPattern
      | 8, _ => exact v_InvalidBook
      | 9, _ => exact v_InvalidName
      | 10, _ => exact v_DoubleName
      | 11, _ => exact v_UnknownName
      | 12, _ => exact v_InvalidNote
      | 13, _ => exact v_InvalidSource
      | 14, _ => exact v_NoChance
      | 15, _ => exact v_NothingToUndo
      | 16, _ => exact v_Unreadable
      | n + 17, h => exact absurd h (by omega)
  have B : ∀ k, k < 17 → PySem.W.kitOne K (.ref ((clsL [A_WorthError, A_InvalidNumber, A_InvalidSigns, A_UnknownSign, A_InvalidMachine, A_UnlikeSigns, A_Endless, A_InvalidPattern, A_InvalidBook, A_InvalidName, A_DoubleName, A_UnknownName, A_InvalidNote, A_InvalidSource, A_NoChance, A_NothingToUndo, A_Unreadable]) k)) (.ref A_WorthError) = some true := by
      intro k hk
      match k, hk with
      | 0, _ => exact kit_self
      | 1, _ => exact b_InvalidNumber
      | 2, _ => exact b_InvalidSigns
      | 3, _ => exact b_UnknownSign
      | 4, _ => exact b_InvalidMachine
      | 5, _ => exact b_UnlikeSigns
      | 6, _ => exact b_Endless
      | 7, _ => exact b_InvalidPattern
      | 8, _ => exact b_InvalidBook
      | 9, _ => exact b_InvalidName
      | 10, _ => exact b_DoubleName
      | 11, _ => exact b_UnknownName
      | 12, _ => exact b_InvalidNote
      | 13, _ => exact b_InvalidSource
      | 14, _ => exact b_NoChance
      | 15, _ => exact b_NothingToUndo
      | 16, _ => exact b_Unreadable
      | n + 17, h => exact absurd h (by omega)
  have Y : ∀ k, k < 17 → PySem.W.kitAny K (.ref ((clsL [A_WorthError, A_InvalidNumber, A_InvalidSigns, A_UnknownSign, A_InvalidMachine, A_UnlikeSigns, A_Endless, A_InvalidPattern, A_InvalidBook, A_InvalidName, A_DoubleName, A_UnknownName, A_InvalidNote, A_InvalidSource, A_NoChance, A_NothingToUndo, A_Unreadable]) k)) (((List.range 16).filter fun j => j + 1 ≠ k).map fun j => .ref ((clsL [A_WorthError, A_InvalidNumber, A_InvalidSigns, A_UnknownSign, A_InvalidMachine, A_UnlikeSigns, A_Endless, A_InvalidPattern, A_InvalidBook, A_InvalidName, A_DoubleName, A_UnknownName, A_InvalidNote, A_InvalidSource, A_NoChance, A_NothingToUndo, A_Unreadable]) (j + 1))) = some false := by
      intro k hk
      match k, hk with
      | 0, _ => exact y_WorthError
      | 1, _ => exact y_InvalidNumber
      | 2, _ => exact y_InvalidSigns
      | 3, _ => exact y_UnknownSign
      | 4, _ => exact y_InvalidMachine
      | 5, _ => exact y_UnlikeSigns
      | 6, _ => exact y_Endless
      | 7, _ => exact y_InvalidPattern
      | 8, _ => exact y_InvalidBook
      | 9, _ => exact y_InvalidName
      | 10, _ => exact y_DoubleName
      | 11, _ => exact y_UnknownName
      | 12, _ => exact y_InvalidNote
      | 13, _ => exact y_InvalidSource
      | 14, _ => exact y_NoChance
      | 15, _ => exact y_NothingToUndo
      | 16, _ => exact y_Unreadable
      | n + 17, h => exact absurd h (by omega)
  have C_deck := c_deck (P := P) (w := w) (base := base) S__law_deck n_int
  have C_draw := c_draw (P := P) (w := w) (base := base) S__law_draw n_int
  have C_text := c_text S__law_text n_range n_len C_draw
  have C_alike := c_alikeE (P := P) (w := w) (base := base) S__law_alike n_isinstance n_list n_dict n_tuple n_len n_zip n_str n_bool n_int 21
  have C_v4 := c_val S__law_value n_range n_len n_tuple C_draw C_text 4
  have C_v2 := c_val S__law_value n_range n_len n_tuple C_draw C_text 2
  have C_value := cal_or C_v4 (C_v2.mono (by decide))
  have C_made := c_made (P := P) (w := w) (base := base) S__law_made X_WorthError X_InvalidNumber X_InvalidSigns X_UnknownSign X_InvalidMachine X_UnlikeSigns X_Endless X_InvalidPattern X_InvalidBook X_InvalidName X_DoubleName X_UnknownName X_InvalidNote X_InvalidSource X_NoChance X_NothingToUndo X_Unreadable G_init
  have C_named := c_named (P := P) (w := w) (base := base) S__law_named X_WorthError X_InvalidNumber X_InvalidSigns X_UnknownSign X_InvalidMachine X_UnlikeSigns X_Endless X_InvalidPattern X_InvalidBook X_InvalidName X_DoubleName X_UnknownName X_InvalidNote X_InvalidSource X_NoChance X_NothingToUndo X_Unreadable G_initK
  have C_kinds := c_kinds (P := P) (w := w) (base := base) S__law_kinds n_isinstance X_WorthError X_InvalidNumber X_InvalidSigns X_UnknownSign X_InvalidMachine X_UnlikeSigns X_Endless X_InvalidPattern X_InvalidBook X_InvalidName X_DoubleName X_UnknownName X_InvalidNote X_InvalidSource X_NoChance X_NothingToUndo X_Unreadable Gc T (kinds_F Y)
  exact c_law S_law n_range n_list n_dict n_int n_isinstance n_ValueError X_WorthError Gc T V B C_deck C_draw C_text C_value C_alike C_made C_named C_kinds
end DL
open PySem PySem.W PyProof.Rows
set_option maxRecDepth 100000 in
set_option maxHeartbeats 0 in
theorem PySem.Challenge.cw_textworths_k00_errors_hold_values_holds : PySem.Challenge.rw_textworths_k00_errors_hold_values.Holds := by
  w_on; o_law; k_head; (case hw => w_witness2)
  k_fill
  refine L2.walk_ofB (n := 63) (k := 22) (x := "_law_script") (CX := fun _ => L2.CX0) (sp := fun w => DL.spD _ 1 DL.P_law) rfl (by decide) rfl ⟨rfl, by decide, by decide⟩ (fun w h Y => PySem.W.kIn_of Y) ?F (fun w H a ns hl hb hO hs => DL.sp_start (DL.law_end) H a ns hl hb hO hs) (fun _ _ _ _ _ z => z)
  case F =>
    intro w mg fa h KX G hmg
    refine' DL.all_mk KX G hmg ?a__law_deck ?l__law_deck ?q__law_deck ?k__law_deck ?a__law_draw ?l__law_draw ?q__law_draw ?k__law_draw ?a__law_text ?l__law_text ?q__law_text ?k__law_text ?a__law_value ?l__law_value ?q__law_value ?k__law_value ?a__law_alike ?l__law_alike ?q__law_alike ?k__law_alike ?a__law_made ?l__law_made ?q__law_made ?k__law_made ?a__law_named ?l__law_named ?q__law_named ?k__law_named ?a__law_kinds ?l__law_kinds ?q__law_kinds ?k__law_kinds ?a_law ?l_law ?q_law ?k_law ?z_int ?z_isinstance ?z_list ?z_dict ?z_tuple ?z_len ?z_str ?z_bool ?z_zip ?z_range ?z_ValueError ?aC_WorthError ?xC_WorthError ?rC_WorthError ?sa_WorthError ?eC_WorthError ?tC_WorthError ?kC_WorthError ?nv_WorthError ?ga_WorthError ?gg_WorthError ?hd_WorthError ?ha_WorthError ?hm_WorthError ?iI_WorthError ?aC_InvalidNumber ?xC_InvalidNumber ?rC_InvalidNumber ?sa_InvalidNumber ?eC_InvalidNumber ?tC_InvalidNumber ?kC_InvalidNumber ?nv_InvalidNumber ?ga_InvalidNumber ?gg_InvalidNumber ?hd_InvalidNumber ?ha_InvalidNumber ?hm_InvalidNumber ?iI_InvalidNumber ?aC_InvalidSigns ?xC_InvalidSigns ?rC_InvalidSigns ?sa_InvalidSigns ?eC_InvalidSigns ?tC_InvalidSigns ?kC_InvalidSigns ?nv_InvalidSigns ?ga_InvalidSigns ?gg_InvalidSigns ?hd_InvalidSigns ?ha_InvalidSigns ?hm_InvalidSigns ?iI_InvalidSigns ?aC_UnknownSign ?xC_UnknownSign ?rC_UnknownSign ?sa_UnknownSign ?eC_UnknownSign ?tC_UnknownSign ?kC_UnknownSign ?nv_UnknownSign ?ga_UnknownSign ?gg_UnknownSign ?hd_UnknownSign ?ha_UnknownSign ?hm_UnknownSign ?iI_UnknownSign ?aC_InvalidMachine ?xC_InvalidMachine ?rC_InvalidMachine ?sa_InvalidMachine ?eC_InvalidMachine ?tC_InvalidMachine ?kC_InvalidMachine ?nv_InvalidMachine ?ga_InvalidMachine ?gg_InvalidMachine ?hd_InvalidMachine ?ha_InvalidMachine ?hm_InvalidMachine ?iI_InvalidMachine ?aC_UnlikeSigns ?xC_UnlikeSigns ?rC_UnlikeSigns ?sa_UnlikeSigns ?eC_UnlikeSigns ?tC_UnlikeSigns ?kC_UnlikeSigns ?nv_UnlikeSigns ?ga_UnlikeSigns ?gg_UnlikeSigns ?hd_UnlikeSigns ?ha_UnlikeSigns ?hm_UnlikeSigns ?iI_UnlikeSigns ?aC_Endless ?xC_Endless ?rC_Endless ?sa_Endless ?eC_Endless ?tC_Endless ?kC_Endless ?nv_Endless ?ga_Endless ?gg_Endless ?hd_Endless ?ha_Endless ?hm_Endless ?iI_Endless ?aC_InvalidPattern ?xC_InvalidPattern ?rC_InvalidPattern ?sa_InvalidPattern ?eC_InvalidPattern ?tC_InvalidPattern ?kC_InvalidPattern ?nv_InvalidPattern ?ga_InvalidPattern ?gg_InvalidPattern ?hd_InvalidPattern ?ha_InvalidPattern ?hm_InvalidPattern ?iI_InvalidPattern ?aC_InvalidBook ?xC_InvalidBook ?rC_InvalidBook ?sa_InvalidBook ?eC_InvalidBook ?tC_InvalidBook ?kC_InvalidBook ?nv_InvalidBook ?ga_InvalidBook ?gg_InvalidBook ?hd_InvalidBook ?ha_InvalidBook ?hm_InvalidBook ?iI_InvalidBook ?aC_InvalidName ?xC_InvalidName ?rC_InvalidName ?sa_InvalidName ?eC_InvalidName ?tC_InvalidName ?kC_InvalidName ?nv_InvalidName ?ga_InvalidName ?gg_InvalidName ?hd_InvalidName ?ha_InvalidName ?hm_InvalidName ?iI_InvalidName ?aC_DoubleName ?xC_DoubleName ?rC_DoubleName ?sa_DoubleName ?eC_DoubleName ?tC_DoubleName ?kC_DoubleName ?nv_DoubleName ?ga_DoubleName ?gg_DoubleName ?hd_DoubleName ?ha_DoubleName ?hm_DoubleName ?iI_DoubleName ?aC_UnknownName ?xC_UnknownName ?rC_UnknownName ?sa_UnknownName ?eC_UnknownName ?tC_UnknownName ?kC_UnknownName ?nv_UnknownName ?ga_UnknownName ?gg_UnknownName ?hd_UnknownName ?ha_UnknownName ?hm_UnknownName ?iI_UnknownName ?aC_InvalidNote ?xC_InvalidNote ?rC_InvalidNote ?sa_InvalidNote ?eC_InvalidNote ?tC_InvalidNote ?kC_InvalidNote ?nv_InvalidNote ?ga_InvalidNote ?gg_InvalidNote ?hd_InvalidNote ?ha_InvalidNote ?hm_InvalidNote ?iI_InvalidNote ?aC_InvalidSource ?xC_InvalidSource ?rC_InvalidSource ?sa_InvalidSource ?eC_InvalidSource ?tC_InvalidSource ?kC_InvalidSource ?nv_InvalidSource ?ga_InvalidSource ?gg_InvalidSource ?hd_InvalidSource ?ha_InvalidSource ?hm_InvalidSource ?iI_InvalidSource ?aC_NoChance ?xC_NoChance ?rC_NoChance ?sa_NoChance ?eC_NoChance ?tC_NoChance ?kC_NoChance ?nv_NoChance ?ga_NoChance ?gg_NoChance ?hd_NoChance ?ha_NoChance ?hm_NoChance ?iI_NoChance ?aC_NothingToUndo ?xC_NothingToUndo ?rC_NothingToUndo ?sa_NothingToUndo ?eC_NothingToUndo ?tC_NothingToUndo ?kC_NothingToUndo ?nv_NothingToUndo ?ga_NothingToUndo ?gg_NothingToUndo ?hd_NothingToUndo ?ha_NothingToUndo ?hm_NothingToUndo ?iI_NothingToUndo ?aC_Unreadable ?xC_Unreadable ?rC_Unreadable ?sa_Unreadable ?eC_Unreadable ?tC_Unreadable ?kC_Unreadable ?nv_Unreadable ?ga_Unreadable ?gg_Unreadable ?hd_Unreadable ?ha_Unreadable ?hm_Unreadable ?iI_Unreadable ?hn ?ht ?tI ?lI ?cI ?kI ?vV ?v_WorthError ?y_WorthError ?v_InvalidNumber ?b_InvalidNumber ?y_InvalidNumber ?v_InvalidSigns ?b_InvalidSigns ?y_InvalidSigns ?v_UnknownSign ?b_UnknownSign ?y_UnknownSign ?v_InvalidMachine ?b_InvalidMachine ?y_InvalidMachine ?v_UnlikeSigns ?b_UnlikeSigns ?y_UnlikeSigns ?v_Endless ?b_Endless ?y_Endless ?v_InvalidPattern ?b_InvalidPattern ?y_InvalidPattern ?v_InvalidBook ?b_InvalidBook ?y_InvalidBook ?v_InvalidName ?b_InvalidName ?y_InvalidName ?v_DoubleName ?b_DoubleName ?y_DoubleName ?v_UnknownName ?b_UnknownName ?y_UnknownName ?v_InvalidNote ?b_InvalidNote ?y_InvalidNote ?v_InvalidSource ?b_InvalidSource ?y_InvalidSource ?v_NoChance ?b_NoChance ?y_NoChance ?v_NothingToUndo ?b_NothingToUndo ?y_NothingToUndo ?v_Unreadable ?b_Unreadable ?y_Unreadable
    (case a__law_deck => k_is)
    (case l__law_deck => k_is)
    (case q__law_deck => k_is)
    (case k__law_deck => k_is)
    (case a__law_draw => k_is)
    (case l__law_draw => k_is)
    (case q__law_draw => k_is)
    (case k__law_draw => k_is)
    (case a__law_text => k_is)
    (case l__law_text => k_is)
    (case q__law_text => k_is)
    (case k__law_text => k_is)
    (case a__law_value => k_is)
    (case l__law_value => k_is)
    (case q__law_value => k_is)
    (case k__law_value => k_is)
    (case a__law_alike => k_is)
    (case l__law_alike => k_is)
    (case q__law_alike => k_is)
    (case k__law_alike => k_is)
    (case a__law_made => k_is)
    (case l__law_made => k_is)
    (case q__law_made => k_is)
    (case k__law_made => k_is)
    (case a__law_named => k_is)
    (case l__law_named => k_is)
    (case q__law_named => k_is)
    (case k__law_named => k_is)
    (case a__law_kinds => k_is)
    (case l__law_kinds => k_is)
    (case q__law_kinds => k_is)
    (case k__law_kinds => k_is)
    (case a_law => k_is)
    (case l_law => k_is)
    (case q_law => k_is)
    (case k_law => k_is)
    (case z_int => k_is)
    (case z_isinstance => k_is)
    (case z_list => k_is)
    (case z_dict => k_is)
    (case z_tuple => k_is)
    (case z_len => k_is)
    (case z_str => k_is)
    (case z_bool => k_is)
    (case z_zip => k_is)
    (case z_range => k_is)
    (case z_ValueError => k_is)
    (case aC_WorthError => k_is)
    (case xC_WorthError => k_is)
    (case rC_WorthError => decide +kernel)
    (case sa_WorthError => k_is)
    (case eC_WorthError => k_is)
    (case tC_WorthError => k_is)
    (case kC_WorthError => k_is)
    (case nv_WorthError => k_is)
    (case ga_WorthError => k_is)
    (case gg_WorthError => k_is)
    (case hd_WorthError => k_is)
    (case ha_WorthError => k_is)
    (case hm_WorthError => k_is)
    (case iI_WorthError => k_is)
    (case aC_InvalidNumber => k_is)
    (case xC_InvalidNumber => k_is)
    (case rC_InvalidNumber => decide +kernel)
    (case sa_InvalidNumber => k_is)
    (case eC_InvalidNumber => k_is)
    (case tC_InvalidNumber => k_is)
    (case kC_InvalidNumber => k_is)
    (case nv_InvalidNumber => k_is)
    (case ga_InvalidNumber => k_is)
    (case gg_InvalidNumber => k_is)
    (case hd_InvalidNumber => k_is)
    (case ha_InvalidNumber => k_is)
    (case hm_InvalidNumber => k_is)
    (case iI_InvalidNumber => k_is)
    (case aC_InvalidSigns => k_is)
    (case xC_InvalidSigns => k_is)
    (case rC_InvalidSigns => decide +kernel)
    (case sa_InvalidSigns => k_is)
    (case eC_InvalidSigns => k_is)
    (case tC_InvalidSigns => k_is)
    (case kC_InvalidSigns => k_is)
    (case nv_InvalidSigns => k_is)
    (case ga_InvalidSigns => k_is)
    (case gg_InvalidSigns => k_is)
    (case hd_InvalidSigns => k_is)
    (case ha_InvalidSigns => k_is)
    (case hm_InvalidSigns => k_is)
    (case iI_InvalidSigns => k_is)
    (case aC_UnknownSign => k_is)
    (case xC_UnknownSign => k_is)
    (case rC_UnknownSign => decide +kernel)
    (case sa_UnknownSign => k_is)
    (case eC_UnknownSign => k_is)
    (case tC_UnknownSign => k_is)
    (case kC_UnknownSign => k_is)
    (case nv_UnknownSign => k_is)
    (case ga_UnknownSign => k_is)
    (case gg_UnknownSign => k_is)
    (case hd_UnknownSign => k_is)
    (case ha_UnknownSign => k_is)
    (case hm_UnknownSign => k_is)
    (case iI_UnknownSign => k_is)
    (case aC_InvalidMachine => k_is)
    (case xC_InvalidMachine => k_is)
    (case rC_InvalidMachine => decide +kernel)
    (case sa_InvalidMachine => k_is)
    (case eC_InvalidMachine => k_is)
    (case tC_InvalidMachine => k_is)
    (case kC_InvalidMachine => k_is)
    (case nv_InvalidMachine => k_is)
    (case ga_InvalidMachine => k_is)
    (case gg_InvalidMachine => k_is)
    (case hd_InvalidMachine => k_is)
    (case ha_InvalidMachine => k_is)
    (case hm_InvalidMachine => k_is)
    (case iI_InvalidMachine => k_is)
    (case aC_UnlikeSigns => k_is)
    (case xC_UnlikeSigns => k_is)
    (case rC_UnlikeSigns => decide +kernel)
    (case sa_UnlikeSigns => k_is)
    (case eC_UnlikeSigns => k_is)
    (case tC_UnlikeSigns => k_is)
    (case kC_UnlikeSigns => k_is)
    (case nv_UnlikeSigns => k_is)
    (case ga_UnlikeSigns => k_is)
    (case gg_UnlikeSigns => k_is)
    (case hd_UnlikeSigns => k_is)
    (case ha_UnlikeSigns => k_is)
    (case hm_UnlikeSigns => k_is)
    (case iI_UnlikeSigns => k_is)
    (case aC_Endless => k_is)
    (case xC_Endless => k_is)
    (case rC_Endless => decide +kernel)
    (case sa_Endless => k_is)
    (case eC_Endless => k_is)
    (case tC_Endless => k_is)
    (case kC_Endless => k_is)
    (case nv_Endless => k_is)
    (case ga_Endless => k_is)
    (case gg_Endless => k_is)
    (case hd_Endless => k_is)
    (case ha_Endless => k_is)
    (case hm_Endless => k_is)
    (case iI_Endless => k_is)
    (case aC_InvalidPattern => k_is)
    (case xC_InvalidPattern => k_is)
    (case rC_InvalidPattern => decide +kernel)
    (case sa_InvalidPattern => k_is)
    (case eC_InvalidPattern => k_is)
    (case tC_InvalidPattern => k_is)
    (case kC_InvalidPattern => k_is)
    (case nv_InvalidPattern => k_is)
    (case ga_InvalidPattern => k_is)
    (case gg_InvalidPattern => k_is)
    (case hd_InvalidPattern => k_is)
    (case ha_InvalidPattern => k_is)
    (case hm_InvalidPattern => k_is)
    (case iI_InvalidPattern => k_is)
    (case aC_InvalidBook => k_is)
    (case xC_InvalidBook => k_is)
    (case rC_InvalidBook => decide +kernel)
    (case sa_InvalidBook => k_is)
    (case eC_InvalidBook => k_is)
    (case tC_InvalidBook => k_is)
    (case kC_InvalidBook => k_is)
    (case nv_InvalidBook => k_is)
    (case ga_InvalidBook => k_is)
    (case gg_InvalidBook => k_is)
    (case hd_InvalidBook => k_is)
    (case ha_InvalidBook => k_is)
    (case hm_InvalidBook => k_is)
    (case iI_InvalidBook => k_is)
    (case aC_InvalidName => k_is)
    (case xC_InvalidName => k_is)
    (case rC_InvalidName => decide +kernel)
    (case sa_InvalidName => k_is)
    (case eC_InvalidName => k_is)
    (case tC_InvalidName => k_is)
    (case kC_InvalidName => k_is)
    (case nv_InvalidName => k_is)
    (case ga_InvalidName => k_is)
    (case gg_InvalidName => k_is)
    (case hd_InvalidName => k_is)
    (case ha_InvalidName => k_is)
    (case hm_InvalidName => k_is)
    (case iI_InvalidName => k_is)
    (case aC_DoubleName => k_is)
    (case xC_DoubleName => k_is)
    (case rC_DoubleName => decide +kernel)
    (case sa_DoubleName => k_is)
    (case eC_DoubleName => k_is)
    (case tC_DoubleName => k_is)
    (case kC_DoubleName => k_is)
    (case nv_DoubleName => k_is)
    (case ga_DoubleName => k_is)
    (case gg_DoubleName => k_is)
    (case hd_DoubleName => k_is)
    (case ha_DoubleName => k_is)
    (case hm_DoubleName => k_is)
    (case iI_DoubleName => k_is)
    (case aC_UnknownName => k_is)
    (case xC_UnknownName => k_is)
    (case rC_UnknownName => decide +kernel)
    (case sa_UnknownName => k_is)
    (case eC_UnknownName => k_is)
    (case tC_UnknownName => k_is)
    (case kC_UnknownName => k_is)
    (case nv_UnknownName => k_is)
    (case ga_UnknownName => k_is)
    (case gg_UnknownName => k_is)
    (case hd_UnknownName => k_is)
    (case ha_UnknownName => k_is)
    (case hm_UnknownName => k_is)
    (case iI_UnknownName => k_is)
    (case aC_InvalidNote => k_is)
    (case xC_InvalidNote => k_is)
    (case rC_InvalidNote => decide +kernel)
    (case sa_InvalidNote => k_is)
    (case eC_InvalidNote => k_is)
    (case tC_InvalidNote => k_is)
    (case kC_InvalidNote => k_is)
    (case nv_InvalidNote => k_is)
    (case ga_InvalidNote => k_is)
    (case gg_InvalidNote => k_is)
    (case hd_InvalidNote => k_is)
    (case ha_InvalidNote => k_is)
    (case hm_InvalidNote => k_is)
    (case iI_InvalidNote => k_is)
    (case aC_InvalidSource => k_is)
    (case xC_InvalidSource => k_is)
    (case rC_InvalidSource => decide +kernel)
    (case sa_InvalidSource => k_is)
    (case eC_InvalidSource => k_is)
    (case tC_InvalidSource => k_is)
    (case kC_InvalidSource => k_is)
    (case nv_InvalidSource => k_is)
    (case ga_InvalidSource => k_is)
    (case gg_InvalidSource => k_is)
    (case hd_InvalidSource => k_is)
    (case ha_InvalidSource => k_is)
    (case hm_InvalidSource => k_is)
    (case iI_InvalidSource => k_is)
    (case aC_NoChance => k_is)
    (case xC_NoChance => k_is)
    (case rC_NoChance => decide +kernel)
    (case sa_NoChance => k_is)
    (case eC_NoChance => k_is)
    (case tC_NoChance => k_is)
    (case kC_NoChance => k_is)
    (case nv_NoChance => k_is)
    (case ga_NoChance => k_is)
    (case gg_NoChance => k_is)
    (case hd_NoChance => k_is)
    (case ha_NoChance => k_is)
    (case hm_NoChance => k_is)
    (case iI_NoChance => k_is)
    (case aC_NothingToUndo => k_is)
    (case xC_NothingToUndo => k_is)
    (case rC_NothingToUndo => decide +kernel)
    (case sa_NothingToUndo => k_is)
    (case eC_NothingToUndo => k_is)
    (case tC_NothingToUndo => k_is)
    (case kC_NothingToUndo => k_is)
    (case nv_NothingToUndo => k_is)
    (case ga_NothingToUndo => k_is)
    (case gg_NothingToUndo => k_is)
    (case hd_NothingToUndo => k_is)
    (case ha_NothingToUndo => k_is)
    (case hm_NothingToUndo => k_is)
    (case iI_NothingToUndo => k_is)
    (case aC_Unreadable => k_is)
    (case xC_Unreadable => k_is)
    (case rC_Unreadable => decide +kernel)
    (case sa_Unreadable => k_is)
    (case eC_Unreadable => k_is)
    (case tC_Unreadable => k_is)
    (case kC_Unreadable => k_is)
    (case nv_Unreadable => k_is)
    (case ga_Unreadable => k_is)
    (case gg_Unreadable => k_is)
    (case hd_Unreadable => k_is)
    (case ha_Unreadable => k_is)
    (case hm_Unreadable => k_is)
    (case iI_Unreadable => k_is)
    (case hn => k_is)
    (case ht => k_is)
    (case tI => k_is)
    (case lI => k_is)
    (case cI => k_is)
    (case kI => k_is)
    (case vV => k_is)
    (case v_WorthError => kit_is)
    (case y_WorthError => kit_is)
    (case v_InvalidNumber => kit_is)
    (case b_InvalidNumber => kit_is)
    (case y_InvalidNumber => kit_is)
    (case v_InvalidSigns => kit_is)
    (case b_InvalidSigns => kit_is)
    (case y_InvalidSigns => kit_is)
    (case v_UnknownSign => kit_is)
    (case b_UnknownSign => kit_is)
    (case y_UnknownSign => kit_is)
    (case v_InvalidMachine => kit_is)
    (case b_InvalidMachine => kit_is)
    (case y_InvalidMachine => kit_is)
    (case v_UnlikeSigns => kit_is)
    (case b_UnlikeSigns => kit_is)
    (case y_UnlikeSigns => kit_is)
    (case v_Endless => kit_is)
    (case b_Endless => kit_is)
    (case y_Endless => kit_is)
    (case v_InvalidPattern => kit_is)
    (case b_InvalidPattern => kit_is)
    (case y_InvalidPattern => kit_is)
    (case v_InvalidBook => kit_is)
    (case b_InvalidBook => kit_is)
    (case y_InvalidBook => kit_is)
    (case v_InvalidName => kit_is)
    (case b_InvalidName => kit_is)
    (case y_InvalidName => kit_is)
    (case v_DoubleName => kit_is)
    (case b_DoubleName => kit_is)
    (case y_DoubleName => kit_is)
    (case v_UnknownName => kit_is)
    (case b_UnknownName => kit_is)
    (case y_UnknownName => kit_is)
    (case v_InvalidNote => kit_is)
    (case b_InvalidNote => kit_is)
    (case y_InvalidNote => kit_is)
    (case v_InvalidSource => kit_is)
    (case b_InvalidSource => kit_is)
    (case y_InvalidSource => kit_is)
    (case v_NoChance => kit_is)
    (case b_NoChance => kit_is)
    (case y_NoChance => kit_is)
    (case v_NothingToUndo => kit_is)
    (case b_NothingToUndo => kit_is)
    (case y_NothingToUndo => kit_is)
    (case v_Unreadable => kit_is)
    (case b_Unreadable => kit_is)
    (case y_Unreadable => kit_is)
